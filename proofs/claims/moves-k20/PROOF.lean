import PyProof.Rows.All
import Wide.All
import OpenK.AllK
import Wide.FinOn
import PyProof.EqAt
import PyProof.EqKinds
import PyProof.TupleCall
import HandS.ForMost
import HandS.Wide
import HandS.Flow
import HandS.Zip
import HandS.TupAny
import HandS.OwnEq
import HandS.Defaults
import HandS.More
import HandS.WordsExc
import KE.KOpsOwn
import HandS.IsInst
import HandS.NoneIn
import HandS.TupMul
import HandS.Walk
import KE.GoesMore
import KE.GoesZip
import PyProof.EnumMake
import PyProof.ZipIter
import HandS.HeadEnd
import HandS.Deep
import HandS.Ends
import HandS.Head0
import HandS.Head1
import HandS.Head2
import HandS.HeadHook1
import HandS.HeadHook2
import HandS.ExcOwn
import HandS.ExcIs
import HandS.DeepEq
import HandS.Lambda
import PySem.Challenge.RW_traproom_k20_good_moves
set_option Elab.async false
set_option linter.all false
set_option maxRecDepth 1000000
set_option maxHeartbeats 0
namespace Mp
open PySem (Str CmpOp)

/-! ### values as trees -/
inductive D where
  | non | bl (b : Bool) | int (i : Int) | str (s : Str) | rat (q : Rat) | tup (ds : List D) | lst (o : Bool) (ds : List D) | strm | scr (ns : List Int)

mutual
def D.noOwn : D → Bool
  | .tup ds => D.noOwns ds
  | .lst o ds => !o && D.noOwns ds
  | _ => true
def D.noOwns : List D → Bool
  | [] => true
  | d :: ds => D.noOwn d && D.noOwns ds
end
mutual
def D.noShr : D → Bool
  | .tup ds => D.noShrs ds
  | .lst o ds => o && D.noShrs ds
  | _ => true
def D.noShrs : List D → Bool
  | [] => true
  | d :: ds => D.noShr d && D.noShrs ds
end
mutual
def D.strip : D → D
  | .tup ds => .tup (D.strips ds)
  | .lst _ ds => .lst false (D.strips ds)
  | d => d
def D.strips : List D → List D
  | [] => []
  | d :: ds => D.strip d :: D.strips ds
end
mutual
/-- == of two values where it is known (no bool against an int) -/
def D.eqv : D → D → Option Bool
  | .non, .non => some true
  | .bl a, .bl b => some (a == b)
  | .int a, .int b => some (a == b)
  | .str a, .str b => some (a == b)
  | .rat a, .rat b => some (a == b)
  | .tup as, .tup bs => D.eqvs as bs
  | .lst _ as, .lst _ bs => if as.length = bs.length then D.eqvs as bs else some false
  | .strm, _ => none
  | _, .strm => none
  | .scr _, _ => none
  | _, .scr _ => none
  | .bl _, .int _ => none
  | .int _, .bl _ => none
  | _, _ => some false
def D.eqvs : List D → List D → Option Bool
  | [], [] => some true
  | a :: as, b :: bs => match D.eqv a b with
    | some true => D.eqvs as bs
    | r => r
  | _, _ => some false
end

def isRat : D → Bool
  | .rat _ => true
  | _ => false
mutual
/-- data without fractions, of small depth -/
def D.plain : D → Nat → Bool
  | .non, _ => true
  | .bl _, _ => true
  | .int _, _ => true
  | .str s, _ => s.cps.all (· < 0x110000)
  | .tup ds, n + 1 => D.plains ds n
  | .lst _ ds, n + 1 => D.plains ds n
  | _, _ => false
def D.plains : List D → Nat → Bool
  | [], _ => true
  | d :: ds, n => D.plain d n && D.plains ds n
end
mutual
/-- data with fractions -/
def D.deep : D → Nat → Bool
  | .non, _ => true
  | .bl _, _ => true
  | .int _, _ => true
  | .str _, _ => true
  | .rat _, _ => true
  | .tup ds, n + 1 => D.deeps ds n
  | .lst _ ds, n + 1 => D.deeps ds n
  | _, _ => false
def D.deeps : List D → Nat → Bool
  | [], _ => true
  | d :: ds, n => D.deep d n && D.deeps ds n
end
def isLst : D → Bool
  | .lst _ _ => true
  | _ => false
def sameD (a b : D) : Bool := (isLst a && isLst b) && ((a.deep 6 && b.deep 6) && (match D.eqv a b with | some true => true | _ => false))
/-- == may be asked -/
def canCmp (a b : D) : Bool := (isRat a && isRat b) || (a.plain 40 && b.plain 40)
/-- lists with fractions: == alone, and only where they are equal -/
def canC (neg : Bool) (a b : D) : Bool := canCmp a b || (!neg && sameD a b)
def canIn (a : D) (ds : List D) : Bool := a.plain 40 && D.plains ds 39
/-! ### the stream, results -/
structure Strm where
  cells : List Int
  cell : Int
  ix : Int
  mixed : Int
inductive R (α : Type) where
  | ok (a : α) (s : Strm) | err (c : String) (s : Strm) | bad
def M (α : Type) : Type := Strm → R α
def M.bind {α β : Type} (m : M α) (f : α → M β) : M β := fun s => match m s with
  | .ok a s' => f a s'
  | .err c s' => .err c s'
  | .bad => .bad
def M.pure {α : Type} (a : α) : M α := fun s => .ok a s
instance : Monad M where
  pure := M.pure
  bind := M.bind
def bad {α : Type} : M α := fun _ => .bad
def err {α : Type} (c : String) : M α := fun s => .err c s
def getS : M Strm := fun s => .ok s s
def setS (s : Strm) : M Unit := fun _ => .ok () s
def guardM (c : Prop) [Decidable c] : M Unit := if c then pure () else bad
def ofO {α : Type} : Option α → M α
  | some a => pure a
  | none => bad

/-! ### syntax -/
inductive BOp where
  | add | sub | mul | fdiv | mod | pow
  deriving DecidableEq
inductive Ty where
  | ratio | tuple | list | int | bool | str
  deriving DecidableEq
inductive BF where
  | len | abs | int | list | tuple | any | all | sum | max | min | repr | str
  deriving DecidableEq
inductive Tg where
  | nm (i : Nat) | tup (is : List Nat)
  deriving DecidableEq
mutual
inductive ME where
  | nop | non | bl (b : Bool) | int (i : Int) | str (s : String)
  | var (i : Nat) | glob (x : String) (i : Int)
  | bin (op : BOp) (a b : ME) | neg (a : ME)
  | cmp (op : CmpOp) (a b : ME) | chain (op op' : CmpOp) (a b c : ME)
  | not (a : ME) | and (a b : ME) | or (a b : ME) | ifx (c a b : ME)
  | ix (a i : ME) | sl (a lo hi : ME) | top (a : ME) | bot (a : ME)
  | tup (as : MEs) | lst (as : MEs)
  | call (f : String) (as : MEs) | bi (b : BF) (as : MEs) | mk (as : MEs) | isi (a : ME) (t : Ty)
  | lc (t : Tg) (it : MI) (c e : ME)
inductive MEs where
  | nil | cons (a : ME) (as : MEs)
inductive MI where
  | seq (a : ME) | rng (a : ME) | rng2 (a b : ME) | enum (a : ME) | zip (a b : ME)
end
def MEs.len : MEs → Nat
  | .nil => 0
  | .cons _ as => as.len + 1
mutual
inductive MS where
  | asg (t : Tg) (e : ME) | par (i j : Nat) (a b : ME) | aug (i : Nat) (e : ME)
  | set1 (i : Nat) (k e : ME) | set2 (i : Nat) (k l e : ME)
  | app (i : Nat) (e : ME) | appm (i j : Nat) | spoil (t i : Nat) | app0 (i : Nat) | ext (i : Nat) (e : ME) | ins (i : Nat) (k e : ME) | pop (t i : Nat) (k : ME)
  | exp (e : ME) | ret (e : ME) | retv (i : Nat) | retN
  | ite (c : ME) (a b : MSs)
  | loop (t : Tg) (it : MI) (body : MSs) (kill : List Nat)
  | while (fuel : Nat) (c : ME) (body : MSs) (kill : List Nat)
  | brk | cont | pass
  | frz (i : Nat) | kil (l : List Nat) | mv (i j : Nat)
  | raise (c : String)
inductive MSs where
  | nil | cons (a : MS) (as : MSs)
end
structure MDef where
  np : Nat
  n : Nat
  body : MSs

/-! ### evaluation -/
abbrev En := List (Option D)
/-- how large a list may be, numbers -/
def LIM : Nat := 1000000
def BIT : Nat := 4490
/-- a fraction that may be reckoned with -/
structure Sm (q : Rat) : Prop where
  num : q.num.natAbs < 2 ^ BIT
  den : q.den < 2 ^ BIT
instance (q : Rat) : Decidable (Sm q) := decidable_of_iff (q.num.natAbs < 2 ^ BIT ∧ q.den < 2 ^ BIT) ⟨fun h => ⟨h.1, h.2⟩, fun h => ⟨h.num, h.den⟩⟩
def mulOk (i j : Int) : Prop := i.natAbs.log2 + j.natAbs.log2 < 1000000
instance (i j : Int) : Decidable (mulOk i j) := inferInstanceAs (Decidable (_ < _))

def rep {α : Type} (xs : List α) (k : Int) : List α := (List.replicate k.toNat xs).flatten
def binD : BOp → D → D → M D
  | .add, .int i, .int j => pure (.int (i + j))
  | .add, .rat a, .rat b => do guardM (Sm a ∧ Sm b); pure (.rat (a + b))
  | .add, .str a, .str b => do guardM (a.length + b.length ≤ LIM); pure (.str (a ++ b))
  | .add, .tup as, .tup bs => do guardM (as.length + bs.length ≤ LIM); pure (.tup (as ++ bs))
  | .add, .lst _ as, .lst _ bs => do guardM (as.length + bs.length ≤ LIM); pure (.lst true (as ++ bs))
  | .sub, .int i, .int j => pure (.int (i - j))
  | .sub, .rat a, .rat b => do guardM (Sm a ∧ Sm b); pure (.rat (a - b))
  | .mul, .int i, .int j => do guardM (mulOk i j); pure (.int (i * j))
  | .mul, .rat a, .rat b => do guardM (Sm a ∧ Sm b); pure (.rat (a * b))
  | .mul, .lst _ as, .int j => do guardM (j < 1000000 ∧ -1000000 < j ∧ as.length * j.toNat ≤ LIM ∧ D.noOwns as = true); pure (.lst true (rep as j))
  | .mul, .tup as, .int j => do guardM (1 ≤ j ∧ j ≤ 1000 ∧ as.length ≤ 1000 ∧ as.isEmpty = false ∧ D.noOwns as = true); pure (.tup (rep as j))
  | .fdiv, .int i, .int j => do guardM (j ≠ 0 ∧ j.natAbs.log2 < 9000); pure (.int (i.fdiv j))
  | .mod, .int i, .int j => do guardM (j ≠ 0); pure (.int (i.fmod j))
  | .pow, .int i, .int j => do guardM (0 ≤ j ∧ j ≤ 1000000 ∧ i.natAbs < 2 ^ 64); pure (.int (i ^ j.toNat))
  | _, _, _ => bad
def negD : D → M D
  | .int i => pure (.int (-i))
  | .rat a => do guardM (Sm a); pure (.rat (-a))
  | _ => bad
def anyEq (x : D) : List D → Option Bool
  | [] => some false
  | d :: ds => match D.eqv d x with
    | some false => anyEq x ds
    | r => r
def isNon : D → Bool
  | .non => true
  | _ => false
def cmpD : CmpOp → D → D → M Bool
  | .Eq, a, b => do guardM (canC false a b = true); ofO (D.eqv a b)
  | .NotEq, a, b => do guardM (canC true a b = true); let r ← ofO (D.eqv a b); pure (!r)
  | .Lt, .int i, .int j => pure (decide (i < j))
  | .LtE, .int i, .int j => pure (decide (i ≤ j))
  | .Gt, .int i, .int j => pure (decide (j < i))
  | .GtE, .int i, .int j => pure (decide (j ≤ i))
  | .Is, a, .non => pure (isNon a)
  | .IsNot, a, .non => pure (!isNon a)
  | .In, x, .lst _ ds => do guardM (canIn x ds = true); ofO (anyEq x ds)
  | .In, x, .tup ds => do guardM (canIn x ds = true); ofO (anyEq x ds)
  | .NotIn, x, .lst _ ds => do guardM (canIn x ds = true); let r ← ofO (anyEq x ds); pure (!r)
  | .NotIn, x, .tup ds => do guardM (canIn x ds = true); let r ← ofO (anyEq x ds); pure (!r)
  | _, _, _ => bad
def truth : D → M Bool
  | .non => pure false
  | .bl b => pure b
  | .int i => pure (i != 0)
  | .tup ds => pure (!ds.isEmpty)
  | .lst _ ds => pure (!ds.isEmpty)
  | _ => bad
def toB : D → M Bool
  | .bl b => pure b
  | _ => bad
/-- the place of an index -/
def pix (n : Nat) (i : Int) : Option Nat := if 0 ≤ i then (if i < n then some i.toNat else none) else if -(n : Int) ≤ i then some (i + n).toNat else none
def ixD (d : D) (k : D) : M D := match d, k with
  | .tup ds, .int i => ofO ((pix ds.length i).bind fun j => ds[j]?)
  | .lst _ ds, .int i => ofO ((pix ds.length i).bind fun j => ds[j]?)
  | .strm, .int i => do
    let s ← getS
    if i = 0 then pure (.lst false (s.cells.map .int)) else if i = 1 then pure (.int s.cell) else if i = 2 then pure (.int s.ix) else if i = 3 then pure (.int s.mixed) else bad
  | _, _ => bad
def six (n d : Nat) : Option Int → Nat
  | none => d
  | some v => if v < 0 then (v + n).toNat else min v.toNat n
def cut {α : Type} (xs : List α) (lo hi : Option Int) : List α := (xs.drop (six xs.length 0 lo)).take (six xs.length xs.length hi - six xs.length 0 lo)
def slD (d : D) (lo hi : Option Int) : M D := match d with
  | .tup ds => pure (.tup (cut ds lo hi))
  | .lst _ ds => pure (.lst true (cut ds lo hi))
  | _ => bad
def isD : D → Ty → M Bool
  | .strm, _ => bad
  | .scr _, _ => bad
  | .rat _, .ratio => pure true
  | .tup _, .tuple => pure true
  | .lst _ _, .list => pure true
  | .int _, .int => pure true
  | .bl _, .int => pure true
  | .bl _, .bool => pure true
  | .str _, .str => pure true
  | _, _ => pure false
def bools : List D → Option (List Bool)
  | [] => some []
  | .bl b :: ds => (bools ds).map (b :: ·)
  | _ :: _ => none
def intsD : List D → Option (List Int)
  | [] => some []
  | .int b :: ds => (intsD ds).map (b :: ·)
  | _ :: _ => none
def biD : BF → List D → M D
  | .len, [.lst _ ds] => pure (.int ds.length)
  | .len, [.tup ds] => pure (.int ds.length)
  | .abs, [.int i] => pure (.int (if i < 0 then -i else i))
  | .int, [.int i] => pure (.int i)
  | .int, [.bl b] => pure (.int (if b then 1 else 0))
  | .list, [.scr ns] => pure (.lst true (ns.map .int))
  | .list, [.lst _ ds] => pure (.lst true ds)
  | .list, [.tup ds] => pure (.lst true ds)
  | .tuple, [.lst _ ds] => pure (.tup ds)
  | .tuple, [.tup ds] => pure (.tup ds)
  | .any, [.lst _ ds] => do let bs ← ofO (bools ds); pure (.bl (bs.any id))
  | .all, [.lst _ ds] => do let bs ← ofO (bools ds); pure (.bl (bs.all id))
  | .sum, [.lst _ ds] => do let is ← ofO (intsD ds); pure (.int is.sum)
  | .max, [.int i, .int j] => pure (.int (if j > i then j else i))
  | .min, [.int i, .int j] => pure (.int (if j < i then j else i))
  | _, _ => bad
def mkD : List D → M D
  | [.int n] => pure (.rat n)
  | [.int n, .int d] => if d = 0 then err "ByZero" else do guardM (d.natAbs.log2 < 9000); pure (.rat (Rat.divInt n d))
  | _ => bad
def isPath : ME → Bool
  | .var _ => true
  | .ix a _ => isPath a
  | _ => false
/-- what an operand that is only read hands on -/
def elemsOk : D → Bool
  | .tup ds => D.noOwns ds
  | .lst _ ds => D.noOwns ds
  | _ => true
def wipeE (env : En) : List Nat → En
  | [] => env
  | i :: is => (wipeE env is).set i none
def setE (env : En) (i : Nat) (d : D) : En := env.set i (some d)
def setsE : List Nat → List D → En → M En
  | [], [], env => pure env
  | i :: is, d :: ds, env => setsE is ds (setE env i d)
  | _, _, _ => bad
def asgT (t : Tg) (d : D) (env : En) : M En := match t with
  | .nm i => pure (setE env i d)
  | .tup is => match d with
    | .tup ds => setsE is ds env
    | .lst _ ds => setsE is ds env
    | _ => bad
def Tg.slots : Tg → List Nat
  | .nm i => [i]
  | .tup is => is
def rangeD (lo : Int) (n : Nat) : List D := (List.range n).map fun (i : Nat) => D.int (lo + i)
def enumD : Nat → List D → List D
  | _, [] => []
  | n, d :: ds => .tup [.int n, d] :: enumD (n + 1) ds
def zipD : List D → List D → List D
  | a :: as, b :: bs => .tup [a, b] :: zipD as bs
  | _, _ => []
def seqD : D → M (List D)
  | .scr ns => pure (ns.map .int)
  | .tup ds => pure ds
  | .lst _ ds => pure ds
  | _ => bad
def lcD (f : D → M (Option D)) : List D → M (List D)
  | [] => pure []
  | x :: xs => do
    let r ← f x
    let rs ← lcD f xs
    match r with
    | some y => pure (y :: rs)
    | none => pure rs

abbrev CF := String → List D → M D
/-- how an expression is asked: for a value that is kept, for one that is looked at alone, for its truth -/
inductive Md where
  | v | p | t
  deriving DecidableEq
/-- an operand that is read, its items handed on -/
def bw (a : ME) (m : M D) : M D := do
  let d ← m
  guardM (isPath a = false ∨ elemsOk d = true)
  pure d
def isNop : ME → Bool
  | .nop => true
  | _ => false
def optI (e : ME) (m : M D) : M (Option Int) := if isNop e then pure none else do
  let d ← m
  match d with
  | .int i => pure (some i)
  | _ => bad
def tru (m : M D) : M Bool := do let d ← m; truth d
def notB (m : M Bool) : M D := do let b ← m; pure (.bl (!b))
def numD : D → M D
  | .rat q => pure (.int q.num)
  | _ => bad
def denD : D → M D
  | .rat q => pure (.int q.den)
  | _ => bad
def rngD : D → M (List D)
  | .int n => do guardM (-LIM ≤ n ∧ n ≤ LIM); pure (rangeD 0 n.toNat)
  | _ => bad
def rng2D : D → D → M (List D)
  | .int l, .int n => do guardM (-LIM ≤ l ∧ l ≤ LIM ∧ -LIM ≤ n ∧ n ≤ LIM); pure (rangeD l (n - l).toNat)
  | _, _ => bad
section
variable (cf : CF)
mutual
def ev (env : En) (p : Md) : ME → M D
  | .nop => bad
  | .non => pure .non
  | .bl b => pure (.bl b)
  | .int i => pure (.int i)
  | .str s => pure (.str (Str.ofString s))
  | .var i => match env[i]? with
    | some (some d) => do guardM (p ≠ .v ∨ d.noOwn = true); pure d
    | _ => bad
  | .glob _ i => pure (.int i)
  | .bin op a b => do
    let x ← bw a (ev env .p a)
    let y ← bw b (ev env .p b)
    binD op x y
  | .neg a => do let x ← ev env .v a; negD x
  | .cmp op a b => do
    let x ← ev env .p a
    let y ← ev env .p b
    let r ← cmpD op x y
    pure (.bl r)
  | .chain op op' a b c => do
    let x ← ev env .v a
    let y ← ev env .v b
    let r ← cmpD op x y
    if r then do
      let z ← ev env .v c
      let r' ← cmpD op' y z
      pure (.bl r')
    else pure (.bl false)
  | .not a => match p with
    | .t => notB (tru (ev env .t a))
    | _ => notB (tru (ev env .p a))
  | .and a b => match p with
    | .t => do
      let c ← tru (ev env .t a)
      if c then do let r ← tru (ev env .t b); pure (.bl r) else pure (.bl false)
    | _ => do
      let x ← ev env .v a
      let c ← toB x
      if c then ev env .v b else pure (.bl false)
  | .or a b => match p with
    | .t => do
      let c ← tru (ev env .t a)
      if c then pure (.bl true) else do let r ← tru (ev env .t b); pure (.bl r)
    | _ => do
      let x ← ev env .v a
      let c ← toB x
      if c then pure (.bl true) else ev env .v b
  | .ifx c a b => match p with
    | .t => bad
    | _ => do
      let r ← tru (ev env .t c)
      if r then ev env .v a else ev env .v b
  | .ix a k => do
    let d ← ev env .p a
    let i ← ev env .v k
    let r ← ixD d i
    guardM (p ≠ .v ∨ isPath a = false ∨ r.noOwn = true)
    pure r
  | .sl a lo hi => do
    let d ← bw a (ev env .p a)
    let l ← optI lo (ev env .v lo)
    let h ← optI hi (ev env .v hi)
    slD d l h
  | .top a => do let x ← ev env .v a; numD x
  | .bot a => do let x ← ev env .v a; denD x
  | .tup as => do let ds ← evs env as; pure (.tup ds)
  | .lst as => do let ds ← evs env as; pure (.lst true ds)
  | .call f as => do
    let ds ← evas env as
    let d ← cf f (D.strips ds)
    guardM (d.noShr = true ∨ D.noOwns ds = true)
    pure d
  | .bi b as => do let ds ← evbs env as; biD b ds
  | .mk as => do let ds ← evs env as; mkD ds
  | .isi a t => do let x ← ev env .p a; let b ← isD x t; pure (.bl b)
  | .lc t it c e => do
    let ds ← items env it
    guardM (ds.length ≤ LIM ∧ D.noOwns ds = true)
    let rs ← lcD (fun d => do
      let env' ← asgT t d (wipeE env t.slots)
      let b ← (if isNop c then pure true else tru (ev env' .t c))
      if b then do let r ← ev env' .v e; pure (some r) else pure none) ds
    pure (.lst true rs)
def evs (env : En) : MEs → M (List D)
  | .nil => pure []
  | .cons a as => do
    let d ← ev env .v a
    let ds ← evs env as
    pure (d :: ds)
/-- arguments of a def: what they are own of is lent -/
def evas (env : En) : MEs → M (List D)
  | .nil => pure []
  | .cons a as => do
    let d ← ev env .p a
    let ds ← evas env as
    pure (d :: ds)
def evbs (env : En) : MEs → M (List D)
  | .nil => pure []
  | .cons a as => do
    let d ← bw a (ev env .p a)
    let ds ← evbs env as
    pure (d :: ds)
def items (env : En) : MI → M (List D)
  | .seq a => do let d ← ev env .v a; seqD d
  | .rng a => do let d ← ev env .v a; rngD d
  | .rng2 a b => do
    let d ← ev env .v a
    let d' ← ev env .v b
    rng2D d d'
  | .enum a => do let d ← ev env .v a; let ds ← seqD d; pure (enumD 0 ds)
  | .zip a b => do
    let d ← ev env .v a
    let d' ← ev env .v b
    guardM (d.noOwn = true ∧ d'.noOwn = true)
    let ds ← seqD d
    let ds' ← seqD d'
    pure (zipD ds ds')
end

/-! ### statements -/
inductive Fl where
  | nx (e : En) | ret (d : D) | brk (e : En) | cont (e : En)
def kilE (l : List Nat) (e : En) : En := wipeE e l
def forL (body : En → M Fl) (t : Tg) (kill : List Nat) : List D → En → M Fl
  | [], e => pure (.nx e)
  | x :: xs, e => do
    let e1 ← asgT t x e
    let r ← body e1
    match r with
    | .nx e2 => forL body t kill xs (kilE kill e2)
    | .cont e2 => forL body t kill xs (kilE kill e2)
    | .brk e2 => pure (.nx (kilE kill e2))
    | .ret d => pure (.ret d)
def whileL (test : En → M Bool) (body : En → M Fl) (kill : List Nat) : Nat → En → M Fl
  | 0, _ => bad
  | n + 1, e => do
    let b ← test e
    if b then do
      let r ← body e
      match r with
      | .nx e2 => whileL test body kill n (kilE kill e2)
      | .cont e2 => whileL test body kill n (kilE kill e2)
      | .brk e2 => pure (.nx (kilE kill e2))
      | .ret d => pure (.ret d)
    else pure (.nx e)
def getE (env : En) (i : Nat) : M D := match env[i]? with
  | some (some d) => pure d
  | _ => bad
def setAt (ds : List D) (i : Int) (d : D) : Option (List D) := (pix ds.length i).map fun j => ds.set j d
def set1D (o k d : D) : M D := match o, k with
  | .lst true ds, .int i => do let r ← ofO (setAt ds i d); pure (.lst true r)
  | .strm, .int i => match d with
    | .int z => do
      let s ← getS
      if i = 1 then do setS { s with cell := z }; pure .strm
      else if i = 2 then do setS { s with ix := z }; pure .strm
      else if i = 3 then do setS { s with mixed := z }; pure .strm
      else bad
    | _ => bad
  | _, _ => bad
def set2D (o k l d : D) : M D := match o, k with
  | .lst true ds, .int i => do
    let r ← ofO ((pix ds.length i).bind fun j => ds[j]?)
    match r, l with
    | .lst true rs, .int m => do
      let r' ← ofO (setAt rs m d)
      let q ← ofO (setAt ds i (.lst true r'))
      pure (.lst true q)
    | _, _ => bad
  | _, _ => bad
/-- a row whose first item is None and that ends with 0, in place of a row -/
def spoil1 : D → Option D
  | .lst true (_ :: xs) => if xs.length + 1 < LIM then some (.lst true (.non :: (xs ++ [.int 0]))) else none
  | _ => none
def spoilL : List D → Option (List D)
  | [] => some []
  | d :: ds => match spoil1 d, spoilL ds with
    | some a, some b => some (a :: b)
    | _, _ => none
def spoilD (o : D) : M D := match o with
  | .lst true ds => do let r ← ofO (spoilL ds); pure (.lst true r)
  | _ => bad
/-- 0 behind the first row -/
def app0D (o : D) : M D := match o with
  | .lst true (.lst true xs :: ds) => do guardM (xs.length < LIM); pure (.lst true (.lst true (xs ++ [.int 0]) :: ds))
  | _ => bad
def appD (o d : D) : M D := match o with
  | .lst true ds => do guardM (ds.length < LIM); pure (.lst true (ds ++ [d]))
  | _ => bad
def extD (o d : D) : M D := match o, d with
  | .lst true ds, .lst _ es => do guardM (ds.length + es.length ≤ LIM); pure (.lst true (ds ++ es))
  | _, _ => bad
def insAt (ds : List D) (i : Int) (d : D) : List D := ds.take i.toNat ++ d :: ds.drop i.toNat
def insD (o k d : D) : M D := match o, k with
  | .lst true ds, .int i => do guardM (ds.length < LIM ∧ 0 ≤ i ∧ i ≤ ds.length); pure (.lst true (insAt ds i d))
  | _, _ => bad
def popD (o k : D) : M (D × D) := match o, k with
  | .lst true ds, .int i => do
    guardM (ds.length ≤ LIM)
    let j ← ofO (pix ds.length i)
    let d ← ofO ds[j]?
    pure (d, .lst true (ds.eraseIdx j))
  | _, _ => bad
def strmD : D → Option Strm
  | .lst true [.lst _ cs, .int c, .int i, .int m] => (intsD cs).map fun ns => ⟨ns, c, i, m⟩
  | _ => none
def augD : D → D → M D
  | .int i, .int j => pure (.int (i + j))
  | _, _ => bad

mutual
def run (env : En) : MS → M Fl
  | .asg t e => do let d ← ev cf env .v e; let r ← asgT t d env; pure (.nx r)
  | .par i j a b => do
    let x ← ev cf env .v a
    let y ← ev cf env .v b
    pure (.nx (setE (setE env i x) j y))
  | .aug i e => do
    let o ← getE env i
    let d ← ev cf env .v e
    let r ← augD o d
    pure (.nx (setE env i r))
  | .set1 i k e => do
    let d ← ev cf env .v e
    let kd ← ev cf env .v k
    let o ← getE env i
    let r ← set1D o kd d
    pure (.nx (setE env i r))
  | .set2 i k l e => do
    let d ← ev cf env .v e
    let kd ← ev cf env .v k
    let ld ← ev cf env .v l
    let o ← getE env i
    let r ← set2D o kd ld d
    pure (.nx (setE env i r))
  | .app i e => do
    let d ← ev cf env .v e
    let o ← getE env i
    let r ← appD o d
    pure (.nx (setE env i r))
  | .ext i e => do
    let d ← bw e (ev cf env .p e)
    let o ← getE env i
    let r ← extD o d
    pure (.nx (setE env i r))
  | .ins i k e => do
    let kd ← ev cf env .v k
    let d ← ev cf env .v e
    let o ← getE env i
    let r ← insD o kd d
    pure (.nx (setE env i r))
  | .pop t i k => do
    let kd ← ev cf env .v k
    let o ← getE env i
    let r ← popD o kd
    pure (.nx (setE (setE env i r.2) t r.1))
  | .exp e => do let _ ← ev cf env .p e; pure (.nx env)
  | .ret e => do let d ← ev cf env .v e; pure (.ret d)
  | .retv i => do let d ← getE env i; pure (.ret d)
  | .retN => pure (.ret .non)
  | .ite c a b => do
    let r ← tru (ev cf env .t c)
    if r then runs env a else runs env b
  | .loop t it body kill => do
    let ds ← items cf env it
    guardM (D.noOwns ds = true)
    forL (fun e => runs e body) t kill ds (kilE kill env)
  | .while fuel c body kill => whileL (fun e => tru (ev cf e .t c)) (fun e => runs e body) kill fuel (kilE kill env)
  | .brk => pure (.brk env)
  | .cont => pure (.cont env)
  | .pass => pure (.nx env)
  | .frz i => do let d ← getE env i; pure (.nx (setE env i d.strip))
  | .kil l => pure (.nx (kilE l env))
  | .mv i j => do let d ← getE env j; pure (.nx (setE (env.set j none) i d))
  | .appm i j => do
    let d ← getE env j
    let o ← getE (env.set j none) i
    let r ← appD o d
    pure (.nx (setE (env.set j none) i r))
  | .spoil t i => do
    guardM (t ≠ i ∧ t < env.length)
    let o ← getE env i
    let r ← spoilD o
    pure (.nx (setE (env.set t none) i r))
  | .app0 i => do
    let o ← getE env i
    let r ← app0D o
    pure (.nx (setE env i r))
  | .raise c => err c
def runs (env : En) : MSs → M Fl
  | .nil => pure (.nx env)
  | .cons a as => do
    let r ← run env a
    match r with
    | .nx e => runs e as
    | r => pure r
end
end
def callF (Γ : String → Option MDef) : Nat → CF
  | 0, _, _ => bad
  | k + 1, f, ds => match Γ f with
    | some md => do
      guardM (ds.length = md.np)
      let r ← runs (callF Γ k) (ds.map some ++ List.replicate (md.n - md.np) none) md.body
      match r with
      | .nx _ => pure .non
      | .ret d => pure d
      | _ => bad
    | none => bad
end Mp

namespace Mp
open PySem PySem.Spec
open PyProof.Rows L2

/-! ### weakest preconditions of the evaluator -/
def W {α : Type} (m : M α) (s : Strm) (Q : α → Strm → Prop) : Prop := match m s with
  | .ok a s' => Q a s'
  | _ => False
theorem W_bind {α β : Type} {m : M α} {f : α → M β} {s : Strm} {Q : β → Strm → Prop} : W (m >>= f) s Q ↔ W m s fun a s' => W (f a) s' Q := by
  show W (M.bind m f) s Q ↔ _
  unfold W M.bind
  cases m s <;> rfl
theorem W_pure {α : Type} {a : α} {s : Strm} {Q : α → Strm → Prop} : W (pure a) s Q ↔ Q a s := Iff.rfl
theorem W_bad {α : Type} {s : Strm} {Q : α → Strm → Prop} : W (bad : M α) s Q ↔ False := Iff.rfl
theorem W_guard {c : Prop} [Decidable c] {s : Strm} {Q : Unit → Strm → Prop} : W (guardM c) s Q ↔ c ∧ Q () s := by
  unfold guardM
  by_cases h : c
  · rw [if_pos h]; exact ⟨fun q => ⟨h, q⟩, fun q => q.2⟩
  · rw [if_neg h]; exact ⟨fun q => q.elim, fun q => (h q.1).elim⟩
theorem W_ofO {α : Type} {o : Option α} {s : Strm} {Q : α → Strm → Prop} : W (ofO o) s Q ↔ ∃ a, o = some a ∧ Q a s := by
  cases o with
  | none => exact ⟨fun q => q.elim, fun ⟨a, e, _⟩ => by cases e⟩
  | some a => exact ⟨fun q => ⟨a, rfl, q⟩, fun ⟨b, e, q⟩ => by cases e; exact q⟩
theorem W_ite {α : Type} {c : Prop} [Decidable c] {m n : M α} {s : Strm} {Q : α → Strm → Prop} : W (if c then m else n) s Q ↔ if c then W m s Q else W n s Q := by
  by_cases h : c
  · rw [if_pos h, if_pos h]
  · rw [if_neg h, if_neg h]
theorem W_getS {s : Strm} {Q : Strm → Strm → Prop} : W getS s Q ↔ Q s s := Iff.rfl
theorem W_mono {α : Type} {m : M α} {s : Strm} {Q Q' : α → Strm → Prop} (h : W m s Q) (hq : ∀ a s', Q a s' → Q' a s') : W m s Q' := by
  unfold W at h ⊢
  cases e : m s with
  | ok a s' => rw [e] at h; exact hq _ _ h
  | err c s' => rw [e] at h; exact h.elim
  | bad => rw [e] at h; exact h.elim

/-! ### how trees lie in the heap -/
abbrev GS := Addr → Prop
/-- the fields of a Ratio -/
def Flds (fs : List (Str × V)) (q : Rat) : Prop := fs.lookup ("top" : Str) = some (V.int q.num) ∧ fs.lookup ("bottom" : Str) = some (V.int q.den)
def KL (K : PySem.W.Frag) (a : Addr) (xs : List V) : Prop := ∃ (o : Obj) (its : Array Value) (n : Nat), K.lookup a = some o ∧ o.cls = .type "list" ∧ o.dict = none ∧ o.data = .seq its n ∧ its.size ≤ sizeLine ∧ Vals xs its.toList
/-- the script -/
def Scr (K : PySem.W.Frag) (H : Hp) (a : Addr) (ns : List Int) : Prop := (∃ o, H a = some (.frz o (.lst (ns.map V.int)))) ∨ KL K a (ns.map V.int)
section
variable (K : PySem.W.Frag) (C : Addr) (p0 : Option Addr)
mutual
def Rep (H : Hp) (G : GS) : D → V → List Addr → Prop
  | .non, v, fp => v = .non ∧ fp = []
  | .bl b, v, fp => v = .bl b ∧ fp = []
  | .int i, v, fp => v = .int i ∧ fp = []
  | .str s, v, fp => v = .str s ∧ fp = []
  | .rat q, v, fp => (∃ p dx fs, v = .ref p ∧ H p = some (.ins C dx fs) ∧ Flds fs q) ∧ fp = []
  | .tup ds, v, fp => ∃ p vs, v = .ref p ∧ H p = some (.tup vs) ∧ Reps H G ds vs fp
  | .lst o ds, v, fp => ∃ p vs f, v = .ref p ∧ H p = some (.lst vs) ∧ some p ≠ p0 ∧ Reps H G ds vs f ∧ ((o = true ∧ ¬ G p ∧ fp = p :: f) ∨ (o = false ∧ G p ∧ f = [] ∧ fp = []))
  | .strm, v, fp => ∃ p, p0 = some p ∧ v = .ref p ∧ fp = []
  | .scr ns, v, fp => (∃ p, v = .ref p ∧ Scr K H p ns) ∧ fp = []
def Reps (H : Hp) (G : GS) : List D → List V → List Addr → Prop
  | [], vs, fp => vs = [] ∧ fp = []
  | d :: ds, vs, fp => ∃ v r f g, vs = v :: r ∧ fp = f ++ g ∧ Rep H G d v f ∧ Reps H G ds r g
end
/-- what an expression leaves: all that was tracked (but the stream), the frozen ones -/
structure Grow (H : Hp) (G : GS) (H' : Hp) (G' : GS) : Prop where
  keep : ∀ p o, some p ≠ p0 → H p = some o → H' p = some o
  gs : ∀ p, G p → G' p
  new : ∀ p o, some p ≠ p0 → G' p → H p = some o → G p
  hd : ∀ p x xs, p0 = some p → H p = some (.lst (x :: xs)) → ∃ ys, H' p = some (.lst (x :: ys))
/-- the stream's objects -/
def StAt (H : Hp) (G : GS) (s : Strm) : Prop := ∀ p, p0 = some p → ∃ pc, H p = some (.lst [.ref pc, .int s.cell, .int s.ix, .int s.mixed]) ∧ H pc = some (.lst (s.cells.map .int)) ∧ pc ≠ p ∧ G pc ∧ s.cells.length ≤ LIM
def RepE (H : Hp) (G : GS) : En → List (Option V) → List Addr → Prop
  | [], σ, fp => σ = [] ∧ fp = []
  | none :: e, σ, fp => ∃ x r, σ = x :: r ∧ RepE H G e r fp
  | some d :: e, σ, fp => ∃ v r f g, σ = some v :: r ∧ fp = f ++ g ∧ Rep K C p0 H G d v f ∧ RepE H G e r g
structure StX (H0 : Hp) (G0 : GS) (H : Hp) (G : GS) (s : Strm) (env : En) (σ : L2.St) : Prop where
  grow : Grow p0 H0 G0 H G
  strm : StAt p0 H G s
  gs : ∀ p, G p → some p ≠ p0 ∧ ∃ o, H p = some o
  env : ∃ fp, RepE K C p0 H G env σ fp ∧ fp.Nodup ∧ ∀ a ∈ fp, H0 a = none
end

section
variable {K : PySem.W.Frag} {C : Addr} {p0 : Option Addr} {H H' H2 H0 : Hp} {G G' G2 G0 : GS}
theorem Grow.rfl' : Grow p0 H G H G := ⟨fun _ _ _ h => h, fun _ h => h, fun _ _ _ h _ => h, fun _ _ xs _ h => ⟨xs, h⟩⟩
theorem Grow.trans (a : Grow p0 H G H' G') (b : Grow p0 H' G' H2 G2) : Grow p0 H G H2 G2 :=
  ⟨fun p o n h => b.keep p o n (a.keep p o n h), fun p h => b.gs p (a.gs p h), fun p o n g h => a.new p o n (b.new p o n g (a.keep p o n h)) h, fun p x xs e h => let ⟨ys, h1⟩ := a.hd p x xs e h; b.hd p x ys e h1⟩
/-- the stream's own place holds a list -/
def PL (p0 : Option Addr) (H : Hp) : Prop := ∀ p, p0 = some p → ∃ xs, H p = some (.lst xs)
theorem StAt.pl {s : Strm} (h : StAt p0 H G s) : PL p0 H := fun p e => let ⟨_, h1, _⟩ := h p e; ⟨_, h1⟩
theorem PL.ne (h : PL p0 H) {p : Addr} {o : HO} (e : H p = some o) (n : ∀ xs, o ≠ .lst xs) : some p ≠ p0 := fun z => by
  obtain ⟨xs, q⟩ := h p z.symm
  rw [e] at q
  exact n xs (Option.some.inj q)
mutual
theorem Rep.grow (h : PL p0 H) (g : Grow p0 H G H' G') : ∀ {d : D} {v : V} {fp : List Addr}, Rep K C p0 H G d v fp → Rep K C p0 H' G' d v fp
  | .non, _, _, r => by unfold Rep at r ⊢; exact r
  | .bl _, _, _, r => by unfold Rep at r ⊢; exact r
  | .int _, _, _, r => by unfold Rep at r ⊢; exact r
  | .str _, _, _, r => by unfold Rep at r ⊢; exact r
  | .rat q, _, _, r => by
    unfold Rep at r ⊢
    obtain ⟨⟨p, dx, fs, e, q1, q2⟩, e2⟩ := r
    exact ⟨⟨p, dx, fs, e, g.keep _ _ (h.ne q1 fun _ z => by cases z) q1, q2⟩, e2⟩
  | .tup ds, _, _, r => by
    unfold Rep at r ⊢
    obtain ⟨p, vs, e, q1, q2⟩ := r
    exact ⟨p, vs, e, g.keep _ _ (h.ne q1 fun _ z => by cases z) q1, Reps.grow h g q2⟩
  | .lst o ds, _, _, r => by
    unfold Rep at r ⊢
    obtain ⟨p, vs, f, e, q1, np, q2, q3⟩ := r
    refine ⟨p, vs, f, e, g.keep _ _ np q1, np, Reps.grow h g q2, ?_⟩
    rcases q3 with ⟨a, b, c⟩ | ⟨a, b, c⟩
    · exact .inl ⟨a, fun z => b (g.new _ _ np z q1), c⟩
    · exact .inr ⟨a, g.gs _ b, c⟩
  | .strm, _, _, r => by unfold Rep at r ⊢; exact r
  | .scr ns, _, _, r => by
    unfold Rep at r ⊢
    obtain ⟨⟨p, e, q⟩, e2⟩ := r
    refine ⟨⟨p, e, ?_⟩, e2⟩
    rcases q with ⟨o, q⟩ | q
    · exact .inl ⟨o, g.keep _ _ (h.ne q fun _ z => by cases z) q⟩
    · exact .inr q
theorem Reps.grow (h : PL p0 H) (g : Grow p0 H G H' G') : ∀ {ds : List D} {vs : List V} {fp : List Addr}, Reps K C p0 H G ds vs fp → Reps K C p0 H' G' ds vs fp
  | [], _, _, r => by unfold Reps at r ⊢; exact r
  | d :: ds, _, _, r => by
    unfold Reps at r ⊢
    obtain ⟨v, r', f, g', e1, e2, a, b⟩ := r
    exact ⟨v, r', f, g', e1, e2, Rep.grow h g a, Reps.grow h g b⟩
end
mutual
theorem Rep.noOwn : ∀ {d : D} {v : V} {fp : List Addr}, Rep K C p0 H G d v fp → d.noOwn = true → fp = []
  | .non, _, _, r, _ => by unfold Rep at r; exact r.2
  | .bl _, _, _, r, _ => by unfold Rep at r; exact r.2
  | .int _, _, _, r, _ => by unfold Rep at r; exact r.2
  | .str _, _, _, r, _ => by unfold Rep at r; exact r.2
  | .rat q, _, _, r, _ => by unfold Rep at r; exact r.2
  | .tup ds, _, _, r, n => by
    unfold Rep at r
    obtain ⟨p, vs, e, q1, q2⟩ := r
    exact Reps.noOwn q2 n
  | .lst o ds, _, _, r, n => by
    unfold Rep at r
    unfold D.noOwn at n
    obtain ⟨p, vs, f, e, q1, np, q2, q3⟩ := r
    rcases q3 with ⟨a, b, c⟩ | ⟨a, b, c⟩
    · subst a; cases n
    · exact c.2
  | .strm, _, _, r, _ => by unfold Rep at r; obtain ⟨_, _, _, e⟩ := r; exact e
  | .scr ns, _, _, r, _ => by unfold Rep at r; exact r.2
theorem Reps.noOwn : ∀ {ds : List D} {vs : List V} {fp : List Addr}, Reps K C p0 H G ds vs fp → D.noOwns ds = true → fp = []
  | [], _, _, r, _ => by unfold Reps at r; exact r.2
  | d :: ds, _, _, r, n => by
    unfold Reps at r
    obtain ⟨v, r', f, g', e1, e2, a, b⟩ := r
    have n' : (d.noOwn && D.noOwns ds) = true := n
    rw [Bool.and_eq_true] at n'
    rw [e2, Rep.noOwn a n'.1, Reps.noOwn b n'.2] <;> rfl
end
mutual
theorem Rep.mem : ∀ {d : D} {v : V} {fp : List Addr}, Rep K C p0 H G d v fp → ∀ a ∈ fp, ¬ G a ∧ some a ≠ p0 ∧ ∃ xs, H a = some (.lst xs)
  | .non, _, _, r => by unfold Rep at r; rw [r.2]; simp
  | .bl _, _, _, r => by unfold Rep at r; rw [r.2]; simp
  | .int _, _, _, r => by unfold Rep at r; rw [r.2]; simp
  | .str _, _, _, r => by unfold Rep at r; rw [r.2]; simp
  | .rat q, _, _, r => by unfold Rep at r; rw [r.2]; simp
  | .tup ds, _, _, r => by
    unfold Rep at r
    obtain ⟨p, vs, e, q1, q2⟩ := r
    exact Reps.mem q2
  | .lst o ds, _, _, r => by
    unfold Rep at r
    obtain ⟨p, vs, f, e, q1, np, q2, q3⟩ := r
    rcases q3 with ⟨a, b, c⟩ | ⟨a, b, c⟩
    · rw [c]
      intro x hx
      rcases List.mem_cons.mp hx with rfl | hx
      · exact ⟨b, np, _, q1⟩
      · exact Reps.mem q2 x hx
    · rw [c.2]; simp
  | .strm, _, _, r => by unfold Rep at r; obtain ⟨_, _, _, e⟩ := r; rw [e]; simp
  | .scr ns, _, _, r => by unfold Rep at r; rw [r.2]; simp
theorem Reps.mem : ∀ {ds : List D} {vs : List V} {fp : List Addr}, Reps K C p0 H G ds vs fp → ∀ a ∈ fp, ¬ G a ∧ some a ≠ p0 ∧ ∃ xs, H a = some (.lst xs)
  | [], _, _, r => by unfold Reps at r; rw [r.2]; simp
  | d :: ds, _, _, r => by
    unfold Reps at r
    obtain ⟨v, r', f, g', e1, e2, a, b⟩ := r
    rw [e2]
    intro x hx
    rcases List.mem_append.mp hx with hx | hx
    · exact Rep.mem a x hx
    · exact Reps.mem b x hx
end
mutual
/-- lent: what was own is frozen -/
theorem Rep.lend {G1 : GS} (h1 : ∀ p, G p → G1 p) : ∀ {d : D} {v : V} {fp : List Addr}, Rep K C p0 H G d v fp → (∀ a ∈ fp, G1 a) → Rep K C p0 H G1 d.strip v []
  | .non, _, _, r, _ => by unfold D.strip; unfold Rep at r ⊢; exact ⟨r.1, rfl⟩
  | .bl _, _, _, r, _ => by unfold D.strip; unfold Rep at r ⊢; exact ⟨r.1, rfl⟩
  | .int _, _, _, r, _ => by unfold D.strip; unfold Rep at r ⊢; exact ⟨r.1, rfl⟩
  | .str _, _, _, r, _ => by unfold D.strip; unfold Rep at r ⊢; exact ⟨r.1, rfl⟩
  | .rat q, _, _, r, _ => by unfold D.strip; unfold Rep at r ⊢; exact ⟨r.1, rfl⟩
  | .tup ds, _, _, r, m => by
    unfold D.strip
    unfold Rep at r ⊢
    obtain ⟨p, vs, e, q1, q2⟩ := r
    exact ⟨p, vs, e, q1, Reps.lend h1 q2 m⟩
  | .lst o ds, _, _, r, m => by
    unfold D.strip
    unfold Rep at r ⊢
    obtain ⟨p, vs, f, e, q1, np, q2, q3⟩ := r
    rcases q3 with ⟨a, b, c⟩ | ⟨a, b, c⟩
    · refine ⟨p, vs, [], e, q1, np, Reps.lend h1 q2 fun x hx => m x (by rw [c]; exact List.mem_cons_of_mem _ hx), .inr ⟨rfl, m p (by rw [c]; exact List.mem_cons_self), rfl, rfl⟩⟩
    · obtain ⟨c1, c2⟩ := c
      exact ⟨p, vs, [], e, q1, np, Reps.lend h1 q2 (by rw [c1]; simp), .inr ⟨rfl, h1 _ b, rfl, rfl⟩⟩
  | .strm, _, _, r, _ => by unfold D.strip; unfold Rep at r ⊢; obtain ⟨p, a, b, _⟩ := r; exact ⟨p, a, b, rfl⟩
  | .scr ns, _, _, r, _ => by unfold D.strip; unfold Rep at r ⊢; exact ⟨r.1, rfl⟩
theorem Reps.lend {G1 : GS} (h1 : ∀ p, G p → G1 p) : ∀ {ds : List D} {vs : List V} {fp : List Addr}, Reps K C p0 H G ds vs fp → (∀ a ∈ fp, G1 a) → Reps K C p0 H G1 (D.strips ds) vs []
  | [], _, _, r, _ => by unfold D.strips; unfold Reps at r ⊢; exact ⟨r.1, rfl⟩
  | d :: ds, _, _, r, m => by
    unfold D.strips
    unfold Reps at r ⊢
    obtain ⟨v, r', f, g', e1, e2, a, b⟩ := r
    rw [e2] at m
    exact ⟨v, r', [], [], e1, rfl, Rep.lend h1 a fun x hx => m x (List.mem_append_left _ hx), Reps.lend h1 b fun x hx => m x (List.mem_append_right _ hx)⟩
end
mutual
/-- another own list is written -/
theorem Rep.wrt {p : Addr} {ys zs : List V} (hp : H p = some (.lst zs)) (hG : ¬ G p) : ∀ {d : D} {v : V} {fp : List Addr}, Rep K C p0 H G d v fp → p ∉ fp → Rep K C p0 (upd H p (.lst ys)) G d v fp
  | .non, _, _, r, _ => by unfold Rep at r ⊢; exact r
  | .bl _, _, _, r, _ => by unfold Rep at r ⊢; exact r
  | .int _, _, _, r, _ => by unfold Rep at r ⊢; exact r
  | .str _, _, _, r, _ => by unfold Rep at r ⊢; exact r
  | .rat q, _, _, r, _ => by
    unfold Rep at r ⊢
    obtain ⟨⟨x, dx, fs, e, q1, q2⟩, e2⟩ := r
    exact ⟨⟨x, dx, fs, e, by rw [upd_ne (ne_of q1 hp fun z => by cases z)]; exact q1, q2⟩, e2⟩
  | .tup ds, _, _, r, n => by
    unfold Rep at r ⊢
    obtain ⟨x, vs, e, q1, q2⟩ := r
    exact ⟨x, vs, e, by rw [upd_ne (ne_of q1 hp fun z => by cases z)]; exact q1, Reps.wrt hp hG q2 n⟩
  | .lst o ds, _, _, r, n => by
    unfold Rep at r ⊢
    obtain ⟨x, vs, f, e, q1, np, q2, q3⟩ := r
    rcases q3 with ⟨a, b, c⟩ | ⟨a, b, c⟩
    · rw [c] at n
      have n1 : x ≠ p := fun z => n (by rw [z]; exact List.mem_cons_self)
      exact ⟨x, vs, f, e, by rw [upd_ne n1]; exact q1, np, Reps.wrt hp hG q2 fun z => n (List.mem_cons_of_mem _ z), .inl ⟨a, b, c⟩⟩
    · have n1 : x ≠ p := fun z => hG (z ▸ b)
      exact ⟨x, vs, f, e, by rw [upd_ne n1]; exact q1, np, Reps.wrt hp hG q2 (by rw [c.1]; simp), .inr ⟨a, b, c⟩⟩
  | .strm, _, _, r, _ => by unfold Rep at r ⊢; exact r
  | .scr ns, _, _, r, _ => by
    unfold Rep at r ⊢
    obtain ⟨⟨x, e, q⟩, e2⟩ := r
    refine ⟨⟨x, e, ?_⟩, e2⟩
    rcases q with ⟨o, q⟩ | q
    · exact .inl ⟨o, by rw [upd_ne (ne_of q hp fun z => by cases z)]; exact q⟩
    · exact .inr q
theorem Reps.wrt {p : Addr} {ys zs : List V} (hp : H p = some (.lst zs)) (hG : ¬ G p) : ∀ {ds : List D} {vs : List V} {fp : List Addr}, Reps K C p0 H G ds vs fp → p ∉ fp → Reps K C p0 (upd H p (.lst ys)) G ds vs fp
  | [], _, _, r, _ => by unfold Reps at r ⊢; exact r
  | d :: ds, _, _, r, n => by
    unfold Reps at r ⊢
    obtain ⟨v, r', f, g', e1, e2, a, b⟩ := r
    rw [e2] at n
    exact ⟨v, r', f, g', e1, e2, Rep.wrt hp hG a fun z => n (List.mem_append_left _ z), Reps.wrt hp hG b fun z => n (List.mem_append_right _ z)⟩
end
end
end Mp

namespace Mp
open PySem PySem.Spec
open PyProof.Rows L2
section
variable {K : PySem.W.Frag} {C : Addr} {p0 : Option Addr} {H H' H2 H0 : Hp} {G G' G2 G0 : GS}
theorem nodup_app {α : Type} {f g : List α} : (f ++ g).Nodup ↔ f.Nodup ∧ g.Nodup ∧ ∀ a ∈ f, a ∉ g := by
  rw [List.nodup_append]
  constructor
  · rintro ⟨a, b, c⟩
    exact ⟨a, b, fun x hx hy => c x hx x hy rfl⟩
  · rintro ⟨a, b, c⟩
    exact ⟨a, b, fun x hx y hy e => c x hx (e ▸ hy)⟩
theorem Reps.length : ∀ {ds : List D} {vs : List V} {fp : List Addr}, Reps K C p0 H G ds vs fp → ds.length = vs.length
  | [], _, _, r => by unfold Reps at r; rw [r.1] <;> rfl
  | d :: ds, _, _, r => by
    unfold Reps at r
    obtain ⟨v, r', f, g', e1, e2, a, b⟩ := r
    rw [e1, List.length_cons, List.length_cons, Reps.length b]
theorem Reps.nil_iff {vs : List V} {fp : List Addr} : Reps K C p0 H G [] vs fp ↔ vs = [] ∧ fp = [] := by rw [Reps]
theorem Reps.cons_iff {d : D} {ds : List D} {vs : List V} {fp : List Addr} : Reps K C p0 H G (d :: ds) vs fp ↔ ∃ v r f g, vs = v :: r ∧ fp = f ++ g ∧ Rep K C p0 H G d v f ∧ Reps K C p0 H G ds r g := by
  rw [Reps]
theorem Reps.cons {d : D} {ds : List D} {v : V} {vs : List V} {f g : List Addr} (a : Rep K C p0 H G d v f) (b : Reps K C p0 H G ds vs g) : Reps K C p0 H G (d :: ds) (v :: vs) (f ++ g) :=
  Reps.cons_iff.mpr ⟨v, vs, f, g, rfl, rfl, a, b⟩
theorem Reps.nil : Reps K C p0 H G [] [] [] := Reps.nil_iff.mpr ⟨rfl, rfl⟩
theorem Reps.append : ∀ {ds es : List D} {vs ws : List V} {fp fq : List Addr}, Reps K C p0 H G ds vs fp → Reps K C p0 H G es ws fq → Reps K C p0 H G (ds ++ es) (vs ++ ws) (fp ++ fq)
  | [], _, _, _, _, _, r, q => by
    obtain ⟨rfl, rfl⟩ := Reps.nil_iff.mp r
    exact q
  | d :: ds, _, _, _, _, _, r, q => by
    obtain ⟨v, r', f, g', rfl, rfl, a, b⟩ := Reps.cons_iff.mp r
    rw [List.append_assoc]
    exact Reps.cons a (Reps.append b q)
theorem Reps.get : ∀ {ds : List D} {vs : List V} {fp : List Addr} {j : Nat} {d : D}, Reps K C p0 H G ds vs fp → ds[j]? = some d →
    ∃ v f, vs[j]? = some v ∧ Rep K C p0 H G d v f ∧ (∀ a ∈ f, a ∈ fp) ∧ (fp.Nodup → f.Nodup)
  | [], _, _, _, _, _, e => by simp at e
  | d :: ds, _, _, 0, x, r, e => by
    obtain ⟨v, r', f, g', rfl, rfl, a, b⟩ := Reps.cons_iff.mp r
    have e' : d = x := by simpa using e
    subst e'
    exact ⟨v, f, rfl, a, fun x hx => List.mem_append_left _ hx, fun n => (nodup_app.mp n).1⟩
  | d :: ds, _, _, j + 1, x, r, e => by
    obtain ⟨v, r', f, g', rfl, rfl, a, b⟩ := Reps.cons_iff.mp r
    obtain ⟨w, f', e1, e2, e3, e4⟩ := Reps.get (j := j) b (by simpa using e)
    exact ⟨w, f', by simpa using e1, e2, fun x hx => List.mem_append_right _ (e3 x hx), fun n => e4 (nodup_app.mp n).2.1⟩
/-- items that own nothing, by place -/
theorem Reps.of_get : ∀ {ds : List D} {vs : List V}, ds.length = vs.length → (∀ (j : Nat) d v, ds[j]? = some d → vs[j]? = some v → Rep K C p0 H G d v []) → Reps K C p0 H G ds vs []
  | [], [], _, _ => Reps.nil
  | d :: ds, v :: vs, l, h => by
    have := Reps.cons (h 0 d v rfl rfl) (Reps.of_get (ds := ds) (vs := vs) (by simpa using l) fun j d v a b => h (j + 1) d v (by simpa using a) (by simpa using b))
    simpa using this
theorem Reps.at {ds : List D} {vs : List V} (r : Reps K C p0 H G ds vs []) {j : Nat} {d : D} {v : V} (a : ds[j]? = some d) (b : vs[j]? = some v) : Rep K C p0 H G d v [] := by
  obtain ⟨w, f, e1, e2, e3, _⟩ := r.get a
  rw [b] at e1
  cases e1
  have : f = [] := by
    cases f with
    | nil => rfl
    | cons x _ => exact absurd (e3 x List.mem_cons_self) (by simp)
  rw [this] at e2
  exact e2
/-- the j-th item is changed, in place or by a write at an address of its own -/
theorem Reps.repl : ∀ {ds : List D} {vs : List V} {fp : List Addr} {j : Nat} {d : D}, Reps K C p0 H G ds vs fp → fp.Nodup → ds[j]? = some d →
    ∃ v f, vs[j]? = some v ∧ Rep K C p0 H G d v f ∧ (∀ a ∈ f, a ∈ fp) ∧ f.Nodup ∧
      (∀ (q : Addr) (zs ys : List V) (d' : D) (f' : List Addr), q ∈ f → H q = some (.lst zs) → ¬ G q → Rep K C p0 (upd H q (.lst ys)) G d' v f' → f'.Nodup → (∀ a ∈ f', a ∈ f ∨ a ∉ fp) →
        ∃ fq, Reps K C p0 (upd H q (.lst ys)) G (ds.set j d') vs fq ∧ fq.Nodup ∧ ∀ a ∈ fq, a ∈ f' ∨ (a ∈ fp ∧ a ∉ f)) ∧
      (∀ (d' : D) (v' : V) (f' : List Addr), Rep K C p0 H G d' v' f' → f'.Nodup → (∀ a ∈ f', a ∉ fp) →
        ∃ fq, Reps K C p0 H G (ds.set j d') (vs.set j v') fq ∧ fq.Nodup ∧ ∀ a ∈ fq, a ∈ f' ∨ (a ∈ fp ∧ a ∉ f)) ∧
      (∃ fq, Reps K C p0 H G (ds.eraseIdx j) (vs.eraseIdx j) fq ∧ fq.Nodup ∧ ∀ a ∈ fq, a ∈ fp ∧ a ∉ f)
  | [], _, _, _, _, _, _, e => by simp at e
  | d :: ds, _, _, 0, x, r, n, e => by
    obtain ⟨v, r', f, g, rfl, rfl, a, b⟩ := Reps.cons_iff.mp r
    have e' : d = x := by simpa using e
    subst e'
    obtain ⟨n1, n2, n3⟩ := nodup_app.mp n
    refine ⟨v, f, rfl, a, fun x hx => List.mem_append_left _ hx, n1, fun q zs ys d' f' hq hz hg hr hn ha => ?_, fun d' v' f' hr hn ha => ?_, ⟨g, b, n2, fun x hx => ⟨List.mem_append_right _ hx, fun z => n3 x z hx⟩⟩⟩
    · refine ⟨f' ++ g, Reps.cons hr (Reps.wrt hz hg b (n3 q hq)), nodup_app.mpr ⟨hn, n2, fun x hx hy => ?_⟩, fun x hx => ?_⟩
      · rcases ha x hx with h | h
        · exact n3 x h hy
        · exact h (List.mem_append_right _ hy)
      · rcases List.mem_append.mp hx with h | h
        · exact .inl h
        · exact .inr ⟨List.mem_append_right _ h, fun z => n3 x z h⟩
    · refine ⟨f' ++ g, Reps.cons hr b, nodup_app.mpr ⟨hn, n2, fun x hx hy => ha x hx (List.mem_append_right _ hy)⟩, fun x hx => ?_⟩
      rcases List.mem_append.mp hx with h | h
      · exact .inl h
      · exact .inr ⟨List.mem_append_right _ h, fun z => n3 x z h⟩
  | d :: ds, _, _, j + 1, x, r, n, e => by
    obtain ⟨v, r', f, g, rfl, rfl, a, b⟩ := Reps.cons_iff.mp r
    obtain ⟨n1, n2, n3⟩ := nodup_app.mp n
    obtain ⟨w, fw, e1, e2, e3, e4, h1, h2, h3⟩ := Reps.repl (j := j) b n2 (by simpa using e)
    refine ⟨w, fw, by simpa using e1, e2, fun x hx => List.mem_append_right _ (e3 x hx), e4, fun q zs ys d' f' hq hz hg hr hn ha => ?_, fun d' v' f' hr hn ha => ?_, ?_⟩
    · obtain ⟨fq, q1, q2, q3⟩ := h1 q zs ys d' f' hq hz hg hr hn fun x hx => (ha x hx).imp id fun z y => z (List.mem_append_right _ y)
      refine ⟨f ++ fq, Reps.cons (Rep.wrt hz hg a fun z => n3 q z (e3 q hq)) q1, nodup_app.mpr ⟨n1, q2, fun x hx hy => ?_⟩, fun x hx => ?_⟩
      · rcases q3 x hy with h | h
        · rcases ha x h with k | k
          · exact n3 x hx (e3 x k)
          · exact k (List.mem_append_left _ hx)
        · exact n3 x hx h.1
      · rcases List.mem_append.mp hx with h | h
        · exact .inr ⟨List.mem_append_left _ h, fun z => n3 x h (e3 x z)⟩
        · exact (q3 x h).imp id fun z => ⟨List.mem_append_right _ z.1, z.2⟩
    · obtain ⟨fq, q1, q2, q3⟩ := h2 d' v' f' hr hn fun x hx y => ha x hx (List.mem_append_right _ y)
      refine ⟨f ++ fq, Reps.cons a q1, nodup_app.mpr ⟨n1, q2, fun x hx hy => ?_⟩, fun x hx => ?_⟩
      · rcases q3 x hy with h | h
        · exact ha x h (List.mem_append_left _ hx)
        · exact n3 x hx h.1
      · rcases List.mem_append.mp hx with h | h
        · exact .inr ⟨List.mem_append_left _ h, fun z => n3 x h (e3 x z)⟩
        · exact (q3 x h).imp id fun z => ⟨List.mem_append_right _ z.1, z.2⟩
    · obtain ⟨fq, q1, q2, q3⟩ := h3
      refine ⟨f ++ fq, Reps.cons a q1, nodup_app.mpr ⟨n1, q2, fun x hx hy => n3 x hx (q3 x hy).1⟩, fun x hx => ?_⟩
      rcases List.mem_append.mp hx with h | h
      · exact ⟨List.mem_append_left _ h, fun z => n3 x h (e3 x z)⟩
      · exact ⟨List.mem_append_right _ (q3 x h).1, (q3 x h).2⟩

/-! ### environments -/
theorem RepE.nil_iff {σ : List (Option V)} {fp : List Addr} : RepE K C p0 H G [] σ fp ↔ σ = [] ∧ fp = [] := by rw [RepE]
theorem RepE.none_iff {env : En} {σ : List (Option V)} {fp : List Addr} : RepE K C p0 H G (none :: env) σ fp ↔ ∃ x r, σ = x :: r ∧ RepE K C p0 H G env r fp := by
  rw [RepE]
theorem RepE.some_iff {d : D} {env : En} {σ : List (Option V)} {fp : List Addr} : RepE K C p0 H G (some d :: env) σ fp ↔ ∃ v r f g, σ = some v :: r ∧ fp = f ++ g ∧ Rep K C p0 H G d v f ∧ RepE K C p0 H G env r g := by
  rw [RepE]
theorem RepE.length : ∀ {env : En} {σ : List (Option V)} {fp : List Addr}, RepE K C p0 H G env σ fp → env.length = σ.length
  | [], _, _, r => by rw [(RepE.nil_iff.mp r).1] <;> rfl
  | none :: env, _, _, r => by
    obtain ⟨x, r', rfl, a⟩ := RepE.none_iff.mp r
    rw [List.length_cons, List.length_cons, RepE.length a]
  | some d :: env, _, _, r => by
    obtain ⟨v, r', f, g, rfl, _, _, a⟩ := RepE.some_iff.mp r
    rw [List.length_cons, List.length_cons, RepE.length a]
theorem RepE.grow (h : PL p0 H) (g : Grow p0 H G H' G') : ∀ {env : En} {σ : List (Option V)} {fp : List Addr}, RepE K C p0 H G env σ fp → RepE K C p0 H' G' env σ fp
  | [], _, _, r => by
    obtain ⟨rfl, rfl⟩ := RepE.nil_iff.mp r
    exact RepE.nil_iff.mpr ⟨rfl, rfl⟩
  | none :: env, _, _, r => by
    obtain ⟨x, r', rfl, a⟩ := RepE.none_iff.mp r
    exact RepE.none_iff.mpr ⟨x, r', rfl, RepE.grow h g a⟩
  | some d :: env, _, _, r => by
    obtain ⟨v, r', f, g', rfl, rfl, a, b⟩ := RepE.some_iff.mp r
    exact RepE.some_iff.mpr ⟨v, r', f, g', rfl, rfl, a.grow h g, RepE.grow h g b⟩
theorem RepE.mem : ∀ {env : En} {σ : List (Option V)} {fp : List Addr}, RepE K C p0 H G env σ fp → ∀ a ∈ fp, ¬ G a ∧ some a ≠ p0 ∧ ∃ xs, H a = some (.lst xs)
  | [], _, _, r => by
    obtain ⟨rfl, rfl⟩ := RepE.nil_iff.mp r
    simp
  | none :: env, _, _, r => by
    obtain ⟨x, r', rfl, a⟩ := RepE.none_iff.mp r
    exact RepE.mem a
  | some d :: env, _, _, r => by
    obtain ⟨v, r', f, g', rfl, rfl, a, b⟩ := RepE.some_iff.mp r
    intro x hx
    rcases List.mem_append.mp hx with hx | hx
    · exact a.mem x hx
    · exact RepE.mem b x hx
mutual
/-- more is frozen, nothing of this -/
theorem Rep.more {G1 : GS} (h1 : ∀ p, G p → G1 p) : ∀ {d : D} {v : V} {fp : List Addr}, (∀ a ∈ fp, ¬ G1 a) → Rep K C p0 H G d v fp → Rep K C p0 H G1 d v fp
  | .non, _, _, _, r => by unfold Rep at r ⊢; exact r
  | .bl _, _, _, _, r => by unfold Rep at r ⊢; exact r
  | .int _, _, _, _, r => by unfold Rep at r ⊢; exact r
  | .str _, _, _, _, r => by unfold Rep at r ⊢; exact r
  | .rat q, _, _, _, r => by unfold Rep at r ⊢; exact r
  | .tup ds, _, _, m, r => by
    unfold Rep at r ⊢
    obtain ⟨p, vs, e, q1, q2⟩ := r
    exact ⟨p, vs, e, q1, Reps.more h1 m q2⟩
  | .lst o ds, _, _, m, r => by
    unfold Rep at r ⊢
    obtain ⟨p, vs, f, e, q1, np, q2, q3⟩ := r
    rcases q3 with ⟨a, b, c⟩ | ⟨a, b, c⟩
    · rw [c] at m
      exact ⟨p, vs, f, e, q1, np, Reps.more h1 (fun x hx => m x (List.mem_cons_of_mem _ hx)) q2, .inl ⟨a, m p List.mem_cons_self, c⟩⟩
    · exact ⟨p, vs, f, e, q1, np, Reps.more h1 (by rw [c.1]; simp) q2, .inr ⟨a, h1 _ b, c⟩⟩
  | .strm, _, _, _, r => by unfold Rep at r ⊢; exact r
  | .scr ns, _, _, _, r => by unfold Rep at r ⊢; exact r
theorem Reps.more {G1 : GS} (h1 : ∀ p, G p → G1 p) : ∀ {ds : List D} {vs : List V} {fp : List Addr}, (∀ a ∈ fp, ¬ G1 a) → Reps K C p0 H G ds vs fp → Reps K C p0 H G1 ds vs fp
  | [], _, _, _, r => by unfold Reps at r ⊢; exact r
  | d :: ds, _, _, m, r => by
    unfold Reps at r ⊢
    obtain ⟨v, r', f, g', e1, e2, a, b⟩ := r
    rw [e2] at m
    exact ⟨v, r', f, g', e1, e2, Rep.more h1 (fun x hx => m x (List.mem_append_left _ hx)) a, Reps.more h1 (fun x hx => m x (List.mem_append_right _ hx)) b⟩
end
theorem RepE.more {G1 : GS} (h1 : ∀ p, G p → G1 p) : ∀ {env : En} {σ : List (Option V)} {fp : List Addr}, (∀ a ∈ fp, ¬ G1 a) → RepE K C p0 H G env σ fp → RepE K C p0 H G1 env σ fp
  | [], _, _, _, r => by
    obtain ⟨rfl, rfl⟩ := RepE.nil_iff.mp r
    exact RepE.nil_iff.mpr ⟨rfl, rfl⟩
  | none :: env, _, _, m, r => by
    obtain ⟨x, r', rfl, a⟩ := RepE.none_iff.mp r
    exact RepE.none_iff.mpr ⟨x, r', rfl, RepE.more h1 m a⟩
  | some d :: env, _, _, m, r => by
    obtain ⟨v, r', f, g', rfl, rfl, a, b⟩ := RepE.some_iff.mp r
    exact RepE.some_iff.mpr ⟨v, r', f, g', rfl, rfl, Rep.more h1 (fun x hx => m x (List.mem_append_left _ hx)) a, RepE.more h1 (fun x hx => m x (List.mem_append_right _ hx)) b⟩
theorem RepE.wrtAll {p : Addr} {ys zs : List V} (hp : H p = some (.lst zs)) (hG : ¬ G p) : ∀ {env : En} {σ : List (Option V)} {fp : List Addr}, RepE K C p0 H G env σ fp → p ∉ fp → RepE K C p0 (upd H p (.lst ys)) G env σ fp
  | [], _, _, r, _ => by
    obtain ⟨rfl, rfl⟩ := RepE.nil_iff.mp r
    exact RepE.nil_iff.mpr ⟨rfl, rfl⟩
  | none :: env, _, _, r, m => by
    obtain ⟨x, r', rfl, a⟩ := RepE.none_iff.mp r
    exact RepE.none_iff.mpr ⟨x, r', rfl, RepE.wrtAll hp hG a m⟩
  | some d :: env, _, _, r, m => by
    obtain ⟨v, r', f, g', rfl, rfl, a, b⟩ := RepE.some_iff.mp r
    exact RepE.some_iff.mpr ⟨v, r', f, g', rfl, rfl, Rep.wrt hp hG a fun z => m (List.mem_append_left _ z), RepE.wrtAll hp hG b fun z => m (List.mem_append_right _ z)⟩
/-- a slot bound anew -/
theorem RepE.bind : ∀ {env : En} {σ : List (Option V)} {fp : List Addr} {i : Nat} {d : D} {v : V} {f : List Addr}, RepE K C p0 H G env σ fp → fp.Nodup → Rep K C p0 H G d v f → f.Nodup → (∀ a ∈ f, a ∉ fp) →
    ∃ fq, RepE K C p0 H G (env.set i (some d)) (σ.set i (some v)) fq ∧ fq.Nodup ∧ ∀ a ∈ fq, a ∈ f ∨ a ∈ fp
  | [], _, _, _, _, _, _, r, n, _, _, _ => by
    obtain ⟨rfl, rfl⟩ := RepE.nil_iff.mp r
    exact ⟨[], RepE.nil_iff.mpr ⟨by simp, rfl⟩, n, by simp⟩
  | none :: env, _, fp, 0, d, v, f, r, n, a, n2, m => by
    obtain ⟨x, r', rfl, b⟩ := RepE.none_iff.mp r
    exact ⟨f ++ fp, RepE.some_iff.mpr ⟨v, r', f, fp, rfl, rfl, a, b⟩, nodup_app.mpr ⟨n2, n, m⟩, fun x hx => List.mem_append.mp hx⟩
  | some d0 :: env, _, _, 0, d, v, f, r, n, a, n2, m => by
    obtain ⟨v0, r', f0, g, rfl, rfl, _, b⟩ := RepE.some_iff.mp r
    exact ⟨f ++ g, RepE.some_iff.mpr ⟨v, r', f, g, rfl, rfl, a, b⟩, nodup_app.mpr ⟨n2, (nodup_app.mp n).2.1, fun x hx hy => m x hx (List.mem_append_right _ hy)⟩, fun x hx => (List.mem_append.mp hx).imp id fun z => List.mem_append_right _ z⟩
  | none :: env, _, fp, i + 1, d, v, f, r, n, a, n2, m => by
    obtain ⟨x, r', rfl, b⟩ := RepE.none_iff.mp r
    obtain ⟨fq, q1, q2, q3⟩ := RepE.bind (i := i) b n a n2 m
    exact ⟨fq, RepE.none_iff.mpr ⟨x, _, rfl, q1⟩, q2, q3⟩
  | some d0 :: env, _, _, i + 1, d, v, f, r, n, a, n2, m => by
    obtain ⟨v0, r', f0, g, rfl, rfl, a0, b⟩ := RepE.some_iff.mp r
    obtain ⟨n1, n3, n4⟩ := nodup_app.mp n
    obtain ⟨fq, q1, q2, q3⟩ := RepE.bind (i := i) b n3 a n2 fun x hx hy => m x hx (List.mem_append_right _ hy)
    refine ⟨f0 ++ fq, RepE.some_iff.mpr ⟨v0, _, f0, fq, rfl, rfl, a0, q1⟩, nodup_app.mpr ⟨n1, q2, fun x hx hy => ?_⟩, fun x hx => ?_⟩
    · rcases q3 x hy with h | h
      · exact m x h (List.mem_append_left _ hx)
      · exact n4 x hx h
    · rcases List.mem_append.mp hx with h | h
      · exact .inr (List.mem_append_left _ h)
      · exact (q3 x h).imp id fun z => List.mem_append_right _ z
theorem RepE.forget : ∀ {env : En} {σ : List (Option V)} {fp : List Addr} (i : Nat), RepE K C p0 H G env σ fp → fp.Nodup → ∃ fq, RepE K C p0 H G (env.set i none) σ fq ∧ RepE K C p0 H G (env.set i none) (σ.set i none) fq ∧ fq.Nodup ∧ ∀ a ∈ fq, a ∈ fp
  | [], _, _, _, r, n => by
    obtain ⟨rfl, rfl⟩ := RepE.nil_iff.mp r
    exact ⟨[], RepE.nil_iff.mpr ⟨rfl, rfl⟩, RepE.nil_iff.mpr ⟨rfl, rfl⟩, n, by simp⟩
  | none :: env, _, fp, 0, r, n => by
    obtain ⟨x, r', rfl, b⟩ := RepE.none_iff.mp r
    exact ⟨fp, r, RepE.none_iff.mpr ⟨none, r', rfl, b⟩, n, fun _ h => h⟩
  | some d0 :: env, _, _, 0, r, n => by
    obtain ⟨v0, r', f0, g, rfl, rfl, _, b⟩ := RepE.some_iff.mp r
    exact ⟨g, RepE.none_iff.mpr ⟨_, r', rfl, b⟩, RepE.none_iff.mpr ⟨_, r', rfl, b⟩, (nodup_app.mp n).2.1, fun x hx => List.mem_append_right _ hx⟩
  | none :: env, _, fp, i + 1, r, n => by
    obtain ⟨x, r', rfl, b⟩ := RepE.none_iff.mp r
    obtain ⟨fq, q1, q1', q2, q3⟩ := RepE.forget i b n
    exact ⟨fq, RepE.none_iff.mpr ⟨x, _, rfl, q1⟩, RepE.none_iff.mpr ⟨x, _, rfl, q1'⟩, q2, q3⟩
  | some d0 :: env, _, _, i + 1, r, n => by
    obtain ⟨v0, r', f0, g, rfl, rfl, a0, b⟩ := RepE.some_iff.mp r
    obtain ⟨n1, n3, n4⟩ := nodup_app.mp n
    obtain ⟨fq, q1, q1', q2, q3⟩ := RepE.forget i b n3
    exact ⟨f0 ++ fq, RepE.some_iff.mpr ⟨v0, _, f0, fq, rfl, rfl, a0, q1⟩, RepE.some_iff.mpr ⟨v0, _, f0, fq, rfl, rfl, a0, q1'⟩, nodup_app.mpr ⟨n1, q2, fun x hx hy => n4 x hx (q3 x hy)⟩, fun x hx => (List.mem_append.mp hx).elim (fun h => List.mem_append_left _ h) fun h => List.mem_append_right _ (q3 x h)⟩
/-- a slot: read; changed by a write at an address of its own; bound anew; forgotten -/
theorem RepE.repl : ∀ {env : En} {σ : List (Option V)} {fp : List Addr} {i : Nat} {d : D}, RepE K C p0 H G env σ fp → fp.Nodup → env[i]? = some (some d) →
    ∃ v f, σ[i]? = some (some v) ∧ Rep K C p0 H G d v f ∧ (∀ a ∈ f, a ∈ fp) ∧ f.Nodup ∧
      (∀ (q : Addr) (zs ys : List V) (d' : D) (f' : List Addr), q ∈ f → H q = some (.lst zs) → ¬ G q → Rep K C p0 (upd H q (.lst ys)) G d' v f' → f'.Nodup → (∀ a ∈ f', a ∈ f ∨ a ∉ fp) →
        ∃ fq, RepE K C p0 (upd H q (.lst ys)) G (env.set i (some d')) σ fq ∧ fq.Nodup ∧ ∀ a ∈ fq, a ∈ f' ∨ (a ∈ fp ∧ a ∉ f)) ∧
      (∀ (d' : D) (G1 : GS) (f' : List Addr), (∀ a, G a → G1 a) → (∀ a ∈ fp, a ∉ f → ¬ G1 a) → Rep K C p0 H G1 d' v f' → f'.Nodup → (∀ a ∈ f', a ∈ f) →
        ∃ fq, RepE K C p0 H G1 (env.set i (some d')) σ fq ∧ fq.Nodup ∧ ∀ a ∈ fq, a ∈ f' ∨ (a ∈ fp ∧ a ∉ f)) ∧
      (∃ fq, RepE K C p0 H G (env.set i none) σ fq ∧ fq.Nodup ∧ ∀ a ∈ fq, a ∈ fp ∧ a ∉ f)
  | [], _, _, _, _, _, _, e => by simp at e
  | none :: env, _, _, 0, _, _, _, e => by simp at e
  | none :: env, _, _, i + 1, d, r, n, e => by
    obtain ⟨x, r', rfl, a⟩ := RepE.none_iff.mp r
    obtain ⟨v, f, e1, e2, e3, e4, h1, h2, h3⟩ := RepE.repl (i := i) a n (by simpa using e)
    refine ⟨v, f, by simpa using e1, e2, e3, e4, fun q zs ys d' f' hq hz hg hr hn ha => ?_, fun d' G1 f' g1 g2 hr hn ha => ?_, ?_⟩
    · obtain ⟨fq, q1, q2, q3⟩ := h1 q zs ys d' f' hq hz hg hr hn ha
      exact ⟨fq, RepE.none_iff.mpr ⟨x, r', rfl, q1⟩, q2, q3⟩
    · obtain ⟨fq, q1, q2, q3⟩ := h2 d' G1 f' g1 g2 hr hn ha
      exact ⟨fq, RepE.none_iff.mpr ⟨x, r', rfl, q1⟩, q2, q3⟩
    · obtain ⟨fq, q1, q2, q3⟩ := h3
      exact ⟨fq, RepE.none_iff.mpr ⟨x, r', rfl, q1⟩, q2, q3⟩
  | some d :: env, _, _, 0, x, r, n, e => by
    obtain ⟨v, r', f, g, rfl, rfl, a, b⟩ := RepE.some_iff.mp r
    have e' : d = x := by simpa using e
    subst e'
    obtain ⟨n1, n2, n3⟩ := nodup_app.mp n
    refine ⟨v, f, rfl, a, fun x hx => List.mem_append_left _ hx, n1, fun q zs ys d' f' hq hz hg hr hn ha => ?_, fun d' G1 f' g1 g2 hr hn ha => ?_, ⟨g, RepE.none_iff.mpr ⟨_, r', rfl, b⟩, n2, fun x hx => ⟨List.mem_append_right _ hx, fun z => n3 x z hx⟩⟩⟩
    · refine ⟨f' ++ g, RepE.some_iff.mpr ⟨v, r', f', g, rfl, rfl, hr, ?_⟩, nodup_app.mpr ⟨hn, n2, fun x hx hy => ?_⟩, fun x hx => ?_⟩
      · exact RepE.wrtAll hz hg b (n3 q hq)
      · rcases ha x hx with h | h
        · exact n3 x h hy
        · exact h (List.mem_append_right _ hy)
      · rcases List.mem_append.mp hx with h | h
        · exact .inl h
        · exact .inr ⟨List.mem_append_right _ h, fun z => n3 x z h⟩
    · refine ⟨f' ++ g, RepE.some_iff.mpr ⟨v, r', f', g, rfl, rfl, hr, RepE.more g1 (fun x hx => g2 x (List.mem_append_right _ hx) fun z => n3 x z hx) b⟩, nodup_app.mpr ⟨hn, n2, fun x hx hy => n3 x (ha x hx) hy⟩, fun x hx => ?_⟩
      rcases List.mem_append.mp hx with h | h
      · exact .inl h
      · exact .inr ⟨List.mem_append_right _ h, fun z => n3 x z h⟩
  | some d :: env, _, _, i + 1, x, r, n, e => by
    obtain ⟨v, r', f, g, rfl, rfl, a, b⟩ := RepE.some_iff.mp r
    obtain ⟨n1, n2, n3⟩ := nodup_app.mp n
    obtain ⟨w, fw, e1, e2, e3, e4, h1, h2, h3⟩ := RepE.repl (i := i) b n2 (by simpa using e)
    refine ⟨w, fw, by simpa using e1, e2, fun x hx => List.mem_append_right _ (e3 x hx), e4, fun q zs ys d' f' hq hz hg hr hn ha => ?_, fun d' G1 f' g1 g2 hr hn ha => ?_, ?_⟩
    · obtain ⟨fq, q1, q2, q3⟩ := h1 q zs ys d' f' hq hz hg hr hn fun x hx => (ha x hx).imp id fun z y => z (List.mem_append_right _ y)
      refine ⟨f ++ fq, RepE.some_iff.mpr ⟨v, r', f, fq, rfl, rfl, Rep.wrt hz hg a fun z => n3 q z (e3 q hq), q1⟩, nodup_app.mpr ⟨n1, q2, fun x hx hy => ?_⟩, fun x hx => ?_⟩
      · rcases q3 x hy with h | h
        · rcases ha x h with k | k
          · exact n3 x hx (e3 x k)
          · exact k (List.mem_append_left _ hx)
        · exact n3 x hx h.1
      · rcases List.mem_append.mp hx with h | h
        · exact .inr ⟨List.mem_append_left _ h, fun z => n3 x h (e3 x z)⟩
        · exact (q3 x h).imp id fun z => ⟨List.mem_append_right _ z.1, z.2⟩
    · obtain ⟨fq, q1, q2, q3⟩ := h2 d' G1 f' g1 (fun x hx hy => g2 x (List.mem_append_right _ hx) hy) hr hn ha
      refine ⟨f ++ fq, RepE.some_iff.mpr ⟨v, r', f, fq, rfl, rfl, Rep.more g1 (fun x hx => g2 x (List.mem_append_left _ hx) fun z => n3 x hx (e3 x z)) a, q1⟩, nodup_app.mpr ⟨n1, q2, fun x hx hy => ?_⟩, fun x hx => ?_⟩
      · rcases q3 x hy with h | h
        · exact n3 x hx (e3 x (ha x h))
        · exact n3 x hx h.1
      · rcases List.mem_append.mp hx with h | h
        · exact .inr ⟨List.mem_append_left _ h, fun z => n3 x h (e3 x z)⟩
        · exact (q3 x h).imp id fun z => ⟨List.mem_append_right _ z.1, z.2⟩
    · obtain ⟨fq, q1, q2, q3⟩ := h3
      refine ⟨f ++ fq, RepE.some_iff.mpr ⟨v, r', f, fq, rfl, rfl, a, q1⟩, nodup_app.mpr ⟨n1, q2, fun x hx hy => n3 x hx (q3 x hy).1⟩, fun x hx => ?_⟩
      rcases List.mem_append.mp hx with h | h
      · exact ⟨List.mem_append_left _ h, fun z => n3 x h (e3 x z)⟩
      · exact ⟨List.mem_append_right _ (q3 x h).1, (q3 x h).2⟩
end
end Mp

namespace Mp
open PySem PySem.Spec
open PyProof.Rows L2
/-! ### the world -/
/-- all that was tracked stands -/
def Ex (H H' : Hp) : Prop := ∀ p o, H p = some o → H' p = some o
def RatAt (C : Addr) (H : Hp) (p : Addr) (q : Rat) : Prop := ∃ dx fs, H p = some (.ins C dx fs) ∧ Flds fs q
/-- two fractions in, one out -/
def rRat (C : Addr) (f : Rat → Rat → Rat) : R2 := fun x y H Q => ∃ p q a b, x = .ref p ∧ y = .ref q ∧ RatAt C H p a ∧ RatAt C H q b ∧ Sm a ∧ Sm b ∧ ∀ r H', Ex H H' → RatAt C H' r (f a b) → Q (.ref r) H'
/-- == of what lies as trees -/
def rEqv (K : PySem.W.Frag) (C : Addr) (neg : Bool) : R2 := fun x y H Q => ∃ p0 G a b fa fb r, PL p0 H ∧ Rep K C p0 H G a x fa ∧ Rep K C p0 H G b y fb ∧ canC neg a b = true ∧ D.eqv a b = some r ∧ ∀ H', Ex H H' → Q (.bl (if neg then !r else r)) H'
/-- the room that a def at depth k may use -/
def BASE : Nat := 12
def spEv (K : PySem.W.Frag) (C : Addr) (Γ : String → Option MDef) (k : Nat) (f : String) (np : Nat) : Sp := fun vs H Q _ => vs.length = np ∧
  ∃ (p0 : Option Addr) (s : Strm) (G : GS) (ds : List D), StAt p0 H G s ∧ (∀ p, G p → some p ≠ p0 ∧ ∃ o, H p = some o) ∧ Reps K C p0 H G ds vs [] ∧
    W (callF Γ k f ds) s fun d s' => ∀ H' G' v fp, Grow p0 H G H' G' → StAt p0 H' G' s' → (∀ p, G' p → some p ≠ p0 ∧ ∃ o, H' p = some o) → Rep K C p0 H' G' d v fp → fp.Nodup → (∀ a ∈ fp, H a = none) → Q v H'
def blt : List Str := ["len", "abs", "int", "list", "tuple", "isinstance", "any", "all", "sum", "max", "min", "range", "enumerate", "zip", "repr", "str", "bool"]
/-- Ratio(..): the reading by values -/
def rMk (C : Addr) : List V → Hp → VK → Prop := fun vs H Q => ∃ ds d, (ds = [d] ∧ vs = [.int d] ∧ ∀ r H', Ex H H' → RatAt C H' r d → Q (.ref r) H') ∨
  ∃ e, vs = [.int d, .int e] ∧ e ≠ 0 ∧ e.natAbs.log2 < 9000 ∧ ∀ r H', Ex H H' → RatAt C H' r (Rat.divInt d e) → Q (.ref r) H'
/-- x in a list or tuple -/
def rInv (K : PySem.W.Frag) (C : Addr) (neg : Bool) : R2 := fun x y H Q => ∃ p0 G a ds fa fb r, PL p0 H ∧ Rep K C p0 H G a x fa ∧ (Rep K C p0 H G (.tup ds) y fb ∨ ∃ o, Rep K C p0 H G (.lst o ds) y fb) ∧ canIn a ds = true ∧ anyEq a ds = some r ∧ ∀ H', Ex H H' → Q (.bl (if neg then !r else r)) H'
structure IsX (P : Program) (w : World) (K : PySem.W.Frag) (mg : Str → Option Value) (base : Heap) (X : Cx) : Prop where
  prog : X.prog = P
  w : X.w = w
  K : X.K = K
  mg : X.mg = mg
  base : X.base = base
structure Wd (P : Program) (w : World) (K : PySem.W.Frag) (mg : Str → Option Value) (base : Heap) (C : Addr) (Γ : String → Option MDef) (Gs : String → Option Int) (k : Nat) : Prop where
  free : ∀ x ∈ blt, mg x = none
  gl : ∀ x i, Gs x = some i → ∃ t, mg (Str.ofString x) = some (.int i t)
  gR : mg "Ratio" = some (.ref C)
  cls : Cls K C
  ntop : NoAttr K C "top"
  nbot : NoAttr K C "bottom"
  isT : ∀ T ∈ ["NoneType", "bool", "int", "str", "list", "tuple"], PySem.W.kitOne K (.type T) (.ref C) = some false
  isC : PySem.W.kitOne K (.ref C) (.ref C) = some true
  isB : ∀ T ∈ ["bool", "int", "str", "list", "tuple"], PySem.W.kitOne K (.ref C) (.type T) = some false
  isO : PySem.W.findIn K (.ref C) "__class__" = some (some (.builtin "object.__class__")) ∧ PySem.W.specialIn K (.builtin "object.__class__") "__get__" = some (some (.builtin "getset_descriptor.__get__")) ∧ PySem.W.takesIn K (.builtin "object.__class__") = some true ∧ PySem.W.mroIn K C (.type "object") = some true
  add : ∀ X, IsX P w K mg base X → Room BASE X.A → OpR X (binaryOp .Add) (rRat C fun a b => a + b)
  sub : ∀ X, IsX P w K mg base X → Room BASE X.A → OpR X (binaryOp .Sub) (rRat C fun a b => a - b)
  mul : ∀ X, IsX P w K mg base X → Room BASE X.A → OpR X (binaryOp .Mult) (rRat C fun a b => a * b)
  neg : ∀ X, IsX P w K mg base X → Room BASE X.A → UnR X (unaryOp .USub) fun x H Q => ∃ p a, x = .ref p ∧ RatAt C H p a ∧ Sm a ∧ ∀ r H', Ex H H' → RatAt C H' r (-a) → Q (.ref r) H'
  eq : ∀ X, IsX P w K mg base X → Room BASE X.A → OpR X (compareOp .Eq) (rEqv K C false)
  ne : ∀ X, IsX P w K mg base X → Room BASE X.A → OpR X (compareOp .NotEq) (rEqv K C true)
  inn : ∀ X, IsX P w K mg base X → Room BASE X.A → OpR X (compareOp .In) (rInv K C false)
  nin : ∀ X, IsX P w K mg base X → Room BASE X.A → OpR X (compareOp .NotIn) (rInv K C true)
  mkR : ∀ X, IsX P w K mg base X → Room BASE X.A → ∀ (e : Expr) (es : List Expr) (t : TA) (p pos : Pos), PA X (e :: es) t → Gl X "Ratio" → starEach (e :: es) X.env = (false, eval e X.env) :: starEach es X.env → (backTo pos (starEach es X.env)).any (·.1) = false →
    PE X (.Call (.Name "Ratio" p) (e :: es) [] pos) (fun σ H Q => t σ H fun vs H1 => rMk C vs H1 Q)
  fn : ∀ f md, Γ f = some md → ∃ fa fd ps, FnOk P w K mg base CX0 (BASE + k) fa fd ps (spEv K C Γ k f md.np) ∧ mg (Str.ofString f) = some (.ref fa) ∧ PySem.W.keepIn K (.ref fa) = true ∧ Binds K fd ps []
section
variable (C : Addr) (Γ : String → Option MDef) (Gs : String → Option Int)
structure Gd (k : Nat) (X : Cx) : Prop where
  wd : Wd X.prog X.w X.K X.mg X.base C Γ Gs k
  calm : X.calm = true
  po : PassesOwn (model X.prog X.w) X.A X.env X.xe
  nd : X.N.Nodup
  room : Room (BASE + k) X.A
theorem Gd.isX {k : Nat} {X : Cx} (_ : Gd C Γ Gs k X) : IsX X.prog X.w X.K X.mg X.base X := ⟨rfl, rfl, rfl, rfl, rfl⟩
theorem Gd.r {k : Nat} {X : Cx} (g : Gd C Γ Gs k X) : Room BASE X.A := g.room.mono (Nat.le_add_right _ _)
/-! ### what is shown of an expression -/
def strict (p : Md) (m : ME) : Bool := p == .v || !isPath m
def Post (X : Cx) (p0 : Option Addr) (st : Bool) (H0 : Hp) (G0 : GS) (H : Hp) (G : GS) (env : En) (σ : L2.St) (Q : VK) (d : D) (s' : Strm) : Prop :=
  ∀ H' G' v fp, Grow p0 H G H' G' → StX X.K C p0 H0 G0 H' G' s' env σ → Rep X.K C p0 H' G' d v fp → (st = true → fp.Nodup ∧ ∀ a ∈ fp, H a = none) → Q v H'
def SE (k : Nat) (X : Cx) (p : Md) (m : ME) (e : Expr) : Prop := ∃ t, PE X e t ∧ ∀ (p0 : Option Addr) (H0 : Hp) (G0 : GS) (H : Hp) (G : GS) (s : Strm) (env : En) (σ : L2.St) (Q : VK), StX X.K C p0 H0 G0 H G s env σ →
  W (ev (callF Γ k) env p m) s (Post C X p0 (strict p m) H0 G0 H G env σ Q) → t σ H Q
def ST (k : Nat) (X : Cx) (m : ME) (e : Expr) : Prop := ∃ t, PT X e t ∧ ∀ (p0 : Option Addr) (H0 : Hp) (G0 : GS) (H : Hp) (G : GS) (s : Strm) (env : En) (σ : L2.St) (Q : Bool → Hp → Prop), StX X.K C p0 H0 G0 H G s env σ →
  W (tru (ev (callF Γ k) env .t m)) s (fun b s' => ∀ H' G', Grow p0 H G H' G' → StX X.K C p0 H0 G0 H' G' s' env σ → Q b H') → t σ H Q
def SW (k : Nat) (X : Cx) (m : ME) (e : Expr) : Prop := ∃ t, PW X e t ∧ ∀ (p0 : Option Addr) (H0 : Hp) (G0 : GS) (H : Hp) (G : GS) (s : Strm) (env : En) (σ : L2.St) (Q : Bool → Hp → Prop), StX X.K C p0 H0 G0 H G s env σ →
  W (tru (ev (callF Γ k) env .t m)) s (fun b s' => ∀ H' G', Grow p0 H G H' G' → StX X.K C p0 H0 G0 H' G' s' env σ → Q b H') → t σ H Q
theorem SW.st {k : Nat} {X : Cx} {m : ME} {e : Expr} (h : SW C Γ k X m e) : ST C Γ k X m e := let ⟨t, a, b⟩ := h; ⟨t, a.pt, b⟩
def PostL (X : Cx) (p0 : Option Addr) (st : Bool) (H0 : Hp) (G0 : GS) (H : Hp) (G : GS) (env : En) (σ : L2.St) (Q : List V → Hp → Prop) (ds : List D) (s' : Strm) : Prop :=
  ∀ H' G' vs fp, Grow p0 H G H' G' → StX X.K C p0 H0 G0 H' G' s' env σ → Reps X.K C p0 H' G' ds vs fp → (st = true → fp.Nodup ∧ ∀ a ∈ fp, H a = none) → Q vs H'
def SA (k : Nat) (X : Cx) (st : Bool) (m : En → M (List D)) (es : List Expr) : Prop := ∃ t, PA X es t ∧ ∀ (p0 : Option Addr) (H0 : Hp) (G0 : GS) (H : Hp) (G : GS) (s : Strm) (env : En) (σ : L2.St) (Q : List V → Hp → Prop), StX X.K C p0 H0 G0 H G s env σ →
  W (m env) s (PostL C X p0 st H0 G0 H G env σ Q) → t σ H Q
end
section
variable {K : PySem.W.Frag} {C : Addr} {p0 : Option Addr} {H H' H0 : Hp} {G G' G0 : GS} {s s' : Strm} {env : En} {σ : L2.St}
theorem StX.pl (x : StX K C p0 H0 G0 H G s env σ) : PL p0 H := x.strm.pl
/-- the state behind what only makes things -/
theorem StX.ex (x : StX K C p0 H0 G0 H G s env σ) (e : Ex H H') (hg : Grow p0 H G H' G') (hn : ∀ p, G' p → G p ∨ (some p ≠ p0 ∧ ∃ o, H' p = some o)) : StX K C p0 H0 G0 H' G' s env σ := by
  refine ⟨x.grow.trans hg, fun p hp => ?_, fun p hp => ?_, ?_⟩
  · obtain ⟨pc, a, b, c, d, f⟩ := x.strm p hp
    exact ⟨pc, e _ _ a, e _ _ b, c, hg.gs _ d, f⟩
  · rcases hn p hp with h | h
    · obtain ⟨a, o, b⟩ := x.gs p h
      exact ⟨a, o, e _ _ b⟩
    · exact h
  · obtain ⟨fp, a, b, c⟩ := x.env
    exact ⟨fp, a.grow x.pl hg, b, c⟩
theorem grow_ex (e : Ex H H') : Grow p0 H G H' G := ⟨fun p o _ h => e p o h, fun _ h => h, fun _ _ _ h _ => h, fun _ _ xs _ h => ⟨xs, e _ _ h⟩⟩
theorem StX.ex' (x : StX K C p0 H0 G0 H G s env σ) (e : Ex H H') : StX K C p0 H0 G0 H' G s env σ := x.ex e (grow_ex e) fun _ h => .inl h
theorem ex_upd {p : Addr} {o : HO} (h : H p = none) : Ex H (upd H p o) := fun a u e => by rw [upd_ne (ne_of_none e h)]; exact e
theorem ne_p0 (x : PL p0 H) {p : Addr} (h : H p = none) : some p ≠ p0 := fun z => by
  obtain ⟨xs, q⟩ := x p z.symm
  rw [h] at q
  cases q
theorem rat_rep {q : Rat} {r : Addr} (h : RatAt C H r q) : Rep K C p0 H G (.rat q) (.ref r) [] := by
  obtain ⟨dx, fs, a, b⟩ := h
  rw [Rep]
  exact ⟨⟨r, dx, fs, rfl, a, b⟩, rfl⟩
theorem rat_of {q : Rat} {v : V} {fp : List Addr} (h : Rep K C p0 H G (.rat q) v fp) : ∃ p, v = .ref p ∧ RatAt C H p q := by
  rw [Rep] at h
  obtain ⟨⟨p, dx, fs, e, a, b⟩, _⟩ := h
  exact ⟨p, e, dx, fs, a, b⟩
theorem int_rep {i : Int} : Rep K C p0 H G (.int i) (.int i) [] := by rw [Rep]; exact ⟨rfl, rfl⟩
theorem bl_rep {b : Bool} : Rep K C p0 H G (.bl b) (.bl b) [] := by rw [Rep]; exact ⟨rfl, rfl⟩
theorem non_rep : Rep K C p0 H G .non .non [] := by rw [Rep]; exact ⟨rfl, rfl⟩
theorem str_rep {x : Str} : Rep K C p0 H G (.str x) (.str x) [] := by rw [Rep]; exact ⟨rfl, rfl⟩
theorem int_of {i : Int} {v : V} {fp : List Addr} (h : Rep K C p0 H G (.int i) v fp) : v = .int i := by rw [Rep] at h; exact h.1
theorem bl_of {b : Bool} {v : V} {fp : List Addr} (h : Rep K C p0 H G (.bl b) v fp) : v = .bl b := by rw [Rep] at h; exact h.1
theorem non_of {v : V} {fp : List Addr} (h : Rep K C p0 H G .non v fp) : v = .non := by rw [Rep] at h; exact h.1
theorem str_of {x : Str} {v : V} {fp : List Addr} (h : Rep K C p0 H G (.str x) v fp) : v = .str x := by rw [Rep] at h; exact h.1
theorem tup_of {ds : List D} {v : V} {fp : List Addr} (h : Rep K C p0 H G (.tup ds) v fp) : ∃ p vs, v = .ref p ∧ H p = some (.tup vs) ∧ Reps K C p0 H G ds vs fp := by rw [Rep] at h; exact h
theorem lst_of {o : Bool} {ds : List D} {v : V} {fp : List Addr} (h : Rep K C p0 H G (.lst o ds) v fp) : ∃ p vs f, v = .ref p ∧ H p = some (.lst vs) ∧ some p ≠ p0 ∧ Reps K C p0 H G ds vs f ∧ (fp = p :: f ∨ f = []) := by
  rw [Rep] at h
  obtain ⟨p, vs, f, e, q1, np, q2, q3⟩ := h
  exact ⟨p, vs, f, e, q1, np, q2, q3.imp (fun z => z.2.2) fun z => z.2.2.1⟩
/-- a new tuple -/
theorem tup_new {ds : List D} {vs : List V} {fp : List Addr} {p : Addr} (r : Reps K C p0 H G ds vs fp) (pl : PL p0 H) (hp : H p = none) : Rep K C p0 (upd H p (.tup vs)) G (.tup ds) (.ref p) fp := by
  rw [Rep]
  exact ⟨p, vs, rfl, upd_same, r.grow pl (grow_ex (ex_upd hp))⟩
/-- a new list, its maker's own -/
theorem lst_new {ds : List D} {vs : List V} {fp : List Addr} {p : Addr} (r : Reps K C p0 H G ds vs fp) (pl : PL p0 H) (hp : H p = none) (gs : ∀ p, G p → some p ≠ p0 ∧ ∃ o, H p = some o) : Rep K C p0 (upd H p (.lst vs)) G (.lst true ds) (.ref p) (p :: fp) := by
  rw [Rep]
  refine ⟨p, vs, fp, rfl, upd_same, ne_p0 pl hp, r.grow pl (grow_ex (ex_upd hp)), .inl ⟨rfl, fun z => ?_, rfl⟩⟩
  obtain ⟨_, o, q⟩ := gs p z
  rw [hp] at q
  cases q
theorem fp_new {fp : List Addr} {p : Addr} {ds : List D} {vs : List V} (r : Reps K C p0 H G ds vs fp) (hp : H p = none) (n : fp.Nodup) : (p :: fp).Nodup := by
  refine List.nodup_cons.mpr ⟨fun z => ?_, n⟩
  obtain ⟨_, _, xs, q⟩ := r.mem p z
  rw [hp] at q
  cases q
theorem grow_none (g : Grow p0 H G H' G') (pl : PL p0 H') {p : Addr} (h : H' p = none) : H p = none := by
  cases q : H p with
  | none => rfl
  | some o =>
    rw [g.keep p o (ne_p0 pl h) q] at h
    cases h
end
end Mp

namespace Mp
open PySem PySem.Spec
open PyProof.Rows L2
section
variable {C : Addr} {Γ : String → Option MDef} {Gs : String → Option Int} {k : Nat} {X : Cx} {p0 : Option Addr} {H H1 H2 H' H0 : Hp} {G G1 G2 G' G0 : GS} {s s2 : Strm} {env : En} {σ : L2.St} {Q : VK} {d : D} {v : V} {fp : List Addr} {st : Bool}
theorem Post.fin (h : Post C X p0 st H0 G0 H G env σ Q d s2) (g : Grow p0 H G H2 G2) (x : StX X.K C p0 H0 G0 H2 G2 s2 env σ) (e : Ex H2 H') (r : Rep X.K C p0 H' G2 d v fp) (n : fp.Nodup) (fr : ∀ a ∈ fp, H a = none) : Q v H' :=
  h H' G2 v fp (g.trans (grow_ex e)) (x.ex' e) r fun _ => ⟨n, fr⟩
theorem Ex.rfl' : Ex H H := fun _ _ h => h
theorem Post.flat (h : Post C X p0 st H0 G0 H G env σ Q d s2) (g : Grow p0 H G H2 G2) (x : StX X.K C p0 H0 G0 H2 G2 s2 env σ) (r : Rep X.K C p0 H2 G2 d v []) : Q v H2 :=
  h.fin g x Ex.rfl' r .nil (by simp)
/-! ### constants, names -/
variable {p : Md} {pos : Pos} {j : Nat}
theorem se_int {i : Int} : SE C Γ k X p (.int i) (.Constant (.int i) j pos) := ⟨_, pe_int, fun p0 H0 G0 H G s env σ Q x h => (show Post _ _ _ _ _ _ _ _ _ _ _ _ _ from h).flat Grow.rfl' x int_rep⟩
theorem se_bl {b : Bool} : SE C Γ k X p (.bl b) (.Constant (.bool b) j pos) := ⟨_, pe_bl, fun p0 H0 G0 H G s env σ Q x h => (show Post _ _ _ _ _ _ _ _ _ _ _ _ _ from h).flat Grow.rfl' x bl_rep⟩
theorem se_non : SE C Γ k X p .non (.Constant .none j pos) := ⟨_, pe_non, fun p0 H0 G0 H G s env σ Q x h => (show Post _ _ _ _ _ _ _ _ _ _ _ _ _ from h).flat Grow.rfl' x non_rep⟩
theorem se_str {z : String} : SE C Γ k X p (.str z) (.Constant (.str (Str.ofString z)) j pos) := ⟨_, pe_str, fun p0 H0 G0 H G s env σ Q x h => (show Post _ _ _ _ _ _ _ _ _ _ _ _ _ from h).flat Grow.rfl' x str_rep⟩
theorem se_glob (g : Gd C Γ Gs k X) {z : String} {i : Int} (hz : Gs z = some i) (hg : Gl X (Str.ofString z)) (hd : (Str.ofString z == ("__debug__" : Str)) = false) : SE C Γ k X p (.glob z i) (.Name (Str.ofString z) pos) := by
  obtain ⟨t, ht⟩ := g.wd.gl z i hz
  exact ⟨_, pe_glob (v := .int i) hg ht ⟨t, rfl⟩ hd, fun p0 H0 G0 H G s env σ Q x h => (show Post _ _ _ _ _ _ _ _ _ _ _ _ _ from h).flat Grow.rfl' x int_rep⟩
theorem StX.look (x : StX X.K C p0 H0 G0 H G s env σ) {i : Nat} {d : D} (e : env[i]? = some (some d)) : ∃ v f, σ[i]? = some (some v) ∧ Rep X.K C p0 H G d v f ∧ f.Nodup := by
  obtain ⟨fp, a, n, b⟩ := x.env
  obtain ⟨v, f, e1, e2, _, e4, _⟩ := a.repl n e
  exact ⟨v, f, e1, e2, e4⟩
theorem se_var {i : Nat} {x : Str} (hN : X.N[i]? = some x) (hv : Vis X.env.scope x) (hd : (x == ("__debug__" : Str)) = false) (hcd : (x == ("__classdict__" : Str)) = false) : SE C Γ k X p (.var i) (.Name x pos) := by
  refine ⟨_, pe_var hN hv hd hcd, fun p0 H0 G0 H G s env σ Q x h => ?_⟩
  rw [ev] at h
  cases e : env[i]? with
  | none => rw [e] at h; exact h.elim
  | some o =>
    cases o with
    | none => rw [e] at h; exact h.elim
    | some d =>
      rw [e] at h
      obtain ⟨c, q⟩ := W_guard.mp (W_bind.mp h)
      obtain ⟨v, f, e1, r, n⟩ := x.look e
      refine ⟨v, e1, (show Post _ _ _ _ _ _ _ _ _ _ _ _ _ from q) H G v f Grow.rfl' x r fun z => ?_⟩
      have hp : p = .v := by
        cases p <;> first | rfl | (exfalso; revert z; simp [strict, isPath])
      have : f = [] := r.noOwn (c.resolve_left fun q => q hp)
      rw [this]
      exact ⟨.nil, by simp⟩
/-! ### operands -/
/-- the items of d may be handed on -/
def EF (K : PySem.W.Frag) (C : Addr) (p0 : Option Addr) (F : Addr → Prop) (H : Hp) (G : GS) (d : D) (v : V) : Prop :=
  (∀ ds, d = .tup ds → ∃ p vs f, v = .ref p ∧ H p = some (.tup vs) ∧ Reps K C p0 H G ds vs f ∧ f.Nodup ∧ ∀ a ∈ f, F a) ∧
  (∀ o ds, d = .lst o ds → ∃ p vs f, v = .ref p ∧ H p = some (.lst vs) ∧ some p ≠ p0 ∧ Reps K C p0 H G ds vs f ∧ f.Nodup ∧ ∀ a ∈ f, F a)
theorem EF.grow {K : PySem.W.Frag} {F F' : Addr → Prop} (e : EF K C p0 F H G d v) (pl : PL p0 H) (g : Grow p0 H G H' G') (hf : ∀ a xs, F a → H a = some (.lst xs) → F' a) : EF K C p0 F' H' G' d v := by
  refine ⟨fun ds hd => ?_, fun o ds hd => ?_⟩
  · obtain ⟨p, vs, f, a, b, c, n, q⟩ := e.1 ds hd
    refine ⟨p, vs, f, a, g.keep _ _ (pl.ne b fun _ z => by cases z) b, c.grow pl g, n, fun x hx => ?_⟩
    obtain ⟨_, _, xs, z⟩ := c.mem x hx
    exact hf x xs (q x hx) z
  · obtain ⟨p, vs, f, a, b, np, c, n, q⟩ := e.2 o ds hd
    refine ⟨p, vs, f, a, g.keep _ _ np b, np, c.grow pl g, n, fun x hx => ?_⟩
    obtain ⟨_, _, xs, z⟩ := c.mem x hx
    exact hf x xs (q x hx) z
def PostB (C : Addr) (X : Cx) (p0 : Option Addr) (H0 : Hp) (G0 : GS) (H : Hp) (G : GS) (env : En) (σ : L2.St) (Q : VK) (d : D) (s' : Strm) : Prop :=
  ∀ H' G' v fp, Grow p0 H G H' G' → StX X.K C p0 H0 G0 H' G' s' env σ → Rep X.K C p0 H' G' d v fp → EF X.K C p0 (fun a => H a = none) H' G' d v → Q v H'
def SB (C : Addr) (Γ : String → Option MDef) (k : Nat) (X : Cx) (m : ME) (e : Expr) : Prop := ∃ t, PE X e t ∧ ∀ (p0 : Option Addr) (H0 : Hp) (G0 : GS) (H : Hp) (G : GS) (s : Strm) (env : En) (σ : L2.St) (Q : VK), StX X.K C p0 H0 G0 H G s env σ →
  W (bw m (ev (callF Γ k) env .p m)) s (PostB C X p0 H0 G0 H G env σ Q) → t σ H Q
theorem SE.b {m : ME} {e : Expr} (h : SE C Γ k X .p m e) : SB C Γ k X m e := by
  obtain ⟨t, a, b⟩ := h
  refine ⟨t, a, fun p0 H0 G0 H G s env σ Q x h => b p0 H0 G0 H G s env σ Q x ?_⟩
  unfold bw at h
  refine W_mono (W_bind.mp h) fun d s' q H' G' v fp g x' r z => ?_
  obtain ⟨c, q⟩ := W_guard.mp (W_bind.mp q)
  refine (show PostB _ _ _ _ _ _ _ _ _ _ _ _ from q) H' G' v fp g x' r ⟨fun ds hd => ?_, fun o ds hd => ?_⟩
  · subst hd
    obtain ⟨p, vs, e1, e2, e3⟩ := tup_of r
    refine ⟨p, vs, fp, e1, e2, e3, ?_⟩
    rcases c with c | c
    · exact z (by simp [strict, c])
    · rw [e3.noOwn c]
      exact ⟨.nil, by simp⟩
  · subst hd
    obtain ⟨p, vs, f, e1, e2, e3, e4, e5⟩ := lst_of r
    refine ⟨p, vs, f, e1, e2, e3, e4, ?_⟩
    rcases c with c | c
    · have hz := z (by simp [strict, c])
      rcases e5 with e5 | e5
      · rw [e5] at hz
        exact ⟨(List.nodup_cons.mp hz.1).2, fun a ha => hz.2 a (List.mem_cons_of_mem _ ha)⟩
      · rw [e5]
        exact ⟨.nil, by simp⟩
    · rw [e4.noOwn c]
      exact ⟨.nil, by simp⟩
end
end Mp

namespace Mp
open PySem PySem.Spec
open PyProof.Rows L2
/-! ### a tuple times 1 is itself -/
theorem tuple_mul1 (l : Addr) (items : Array Value) (n : Nat) (dd : Option Addr) (sl : Array (Option Value)) (u : Tok) :
    Meets (Builtin.«tuple.__mul__» ⟨[.ref l, .int 1 u], []⟩) (fun _ R s => s.heap.get? l = some { cls := .type "tuple", dict := dd, data := .seq items n, slots := sl } ∧ R (.ok (.ret (Value.ref l))) s) :=
  .of_wp fun prog w A R s h => by
    obtain ⟨hp, g, d, tk, os⟩ := s
    obtain ⟨hl, h⟩ := h
    have f1 := AutoSeq1.idx_int
    wp_walk using wpAny_loadPart' hl
    repeat (first
      | (refine wpAny_ite_false (by decide) ?_; wp_walk using wpAny_loadPart' hl)
      | (refine wpAny_ite_true (by simp) ?_; wp_walk using wpAny_loadPart' hl))
    exact ⟨_, rfl, h⟩
def rRepT1 (K : PySem.W.Frag) : R2 := fun x y H Q => ∃ l xs, x = .ref l ∧ y = .int 1 ∧ SqT K H l xs ∧ Q (.ref l) H
theorem op_rep1 {X : Cx} : OpR X (binaryOp .Mult) (rRepT1 X.K) := by
  intro pins s σ H x y v u Q I rx ry h
  obtain ⟨l, xs, rfl, rfl, hT, q⟩ := h
  cases rx
  obtain ⟨t, rfl⟩ := ry
  obtain ⟨its, r, ⟨⟨cls, dd, data, sl⟩, ho, hc, n, hd⟩, hs⟩ := I.tuple hT
  simp only at hc hd
  subst hc hd
  exact wpAny_binaryOp_repeat_ref (T := "tuple") (U := "int") (by decide) ⟨_, ho, rfl⟩ (fun s' => typeIs_int s' 1 t) noFill_tuple_mul F.fills_int_mul F.slot_int_rmul repeat_tuple F.slot_int_index.lookup
    (call_meets F.slot_int_rmul (typeIs_int s 1 t) F.entry_int_rmul (F.args_int_rmul_2 _ _) (int_rmul_tuple 1 t l its.toArray n dd sl)
      ⟨ho, rfl, ⟨_, ho, rfl⟩, call_meets F.slot_tuple_mul ⟨_, ho, rfl⟩ F.entry_tuple_mul (F.args_tuple_mul_2 _ _) (tuple_mul1 l its.toArray n dd sl t) ⟨ho, ⟨.ref l, H, I, rfl, q⟩⟩⟩)
end Mp

namespace Mp
open PySem PySem.Spec
open PyProof.Rows L2
theorem lim_size {n : Nat} (h : n ≤ LIM) : n ≤ sizeLine := Nat.le_trans h (by rw [sizeLine_eq]; decide)
theorem lim_size' {n : Nat} (h : n < LIM) : n < sizeLine := Nat.lt_of_lt_of_le h (by rw [sizeLine_eq]; decide)
theorem OpR.or {X : Cx} {f : Value → Value → Sem Value} {r r' : R2} (h : OpR X f r) (h' : OpR X f r') : OpR X f (fun x y H Q => r x y H Q ∨ r' x y H Q) := by
  intro pins s σ H x y v u Q I rx ry q
  rcases q with q | q
  · exact h pins s σ H x y v u Q I rx ry q
  · exact h' pins s σ H x y v u Q I rx ry q
def opP : BOp → Operator
  | .add => .Add | .sub => .Sub | .mul => .Mult | .fdiv => .FloorDiv | .mod => .Mod | .pow => .Pow
theorem op_fdivM {X : Cx} : OpR X (binaryOp .FloorDiv) (rI (fun _ j => j ≠ 0 ∧ j.natAbs.log2 < 9000) fun i j => .int (i.fdiv j)) := opI fun _ _ _ _ _ _ _ hc q => floordiv_int hc.1 q (.inl (PyProof.noPylong_of_log2 hc.2))
theorem op_mulM {X : Cx} : OpR X (binaryOp .Mult) (rI mulOk fun i j => .int (i * j)) := opI fun i j _ _ _ _ _ hc q => mul_int q (CMulW.ok (i := i) (j := j) hc)
def rStr : R2 := fun x y H Q => ∃ i j, x = .str i ∧ y = .str j ∧ i.length + j.length ≤ sizeLine ∧ Q (.str (i ++ j)) H
def rBin (K : PySem.W.Frag) (C : Addr) : BOp → R2
  | .add => fun x y H Q => rI0 (fun i j => .int (i + j)) x y H Q ∨ rRat C (fun a b => a + b) x y H Q ∨ rStr x y H Q ∨ rCatA K x y H Q ∨ rCat x y H Q
  | .sub => fun x y H Q => rI0 (fun i j => .int (i - j)) x y H Q ∨ rRat C (fun a b => a - b) x y H Q
  | .mul => fun x y H Q => rI mulOk (fun i j => .int (i * j)) x y H Q ∨ rRat C (fun a b => a * b) x y H Q ∨ rRep x y H Q ∨ rRepT K x y H Q ∨ rRepT1 K x y H Q
  | .fdiv => rI (fun _ j => j ≠ 0 ∧ j.natAbs.log2 < 9000) fun i j => .int (i.fdiv j)
  | .mod => rI (fun _ j => j ≠ 0) fun i j => .int (i.fmod j)
  | .pow => rI CPow fun i j => .int (i ^ j.toNat)
section
variable {C : Addr} {Γ : String → Option MDef} {Gs : String → Option Int} {k : Nat} {X : Cx} {p0 : Option Addr} {H H1 H2 H' H0 : Hp} {G G1 G2 G' G0 : GS} {s s2 : Strm} {env : En} {σ : L2.St} {Q : VK} {d : D} {v : V} {fp : List Addr} {st : Bool}
variable {p : Md} {pos : Pos} {j : Nat}
theorem bin_op (g : Gd C Γ Gs k X) (op : BOp) : OpR X (binaryOp (opP op)) (rBin X.K C op) := by
  cases op with
  | add => exact OpR.or op_add (OpR.or (g.wd.add X g.isX g.r) (OpR.or op_add_str (OpR.or op_catA op_cat)))
  | sub => exact OpR.or op_sub (g.wd.sub X g.isX g.r)
  | mul => exact OpR.or op_mulM (OpR.or (g.wd.mul X g.isX g.r) (OpR.or op_rep (OpR.or op_repT op_rep1)))
  | fdiv => exact op_fdivM
  | mod => exact op_modN
  | pow => exact op_pow
theorem Reps.rep {K : PySem.W.Frag} {ds : List D} {vs : List V} (r : Reps K C p0 H G ds vs []) : ∀ n : Nat, Reps K C p0 H G (List.replicate n ds).flatten (List.replicate n vs).flatten []
  | 0 => Reps.nil
  | n + 1 => by
    rw [List.replicate_succ, List.replicate_succ, List.flatten_cons, List.flatten_cons]
    exact (Reps.append r (Reps.rep r n) : Reps K C p0 H G _ _ ([] ++ []))
theorem bin_sem (op : BOp) {dx dy : D} {x y : V} {fa fb : List Addr} (x2 : StX X.K C p0 H0 G0 H2 G2 s2 env σ) (g : Grow p0 H G H2 G2) (pl1 : PL p0 H2)
    (fr : ∀ a, H1 a = none → H a = none) (ra : Rep X.K C p0 H2 G2 dx x fa) (ea : EF X.K C p0 (fun a => H a = none ∧ H1 a ≠ none) H2 G2 dx x) (rb : Rep X.K C p0 H2 G2 dy y fb) (eb : EF X.K C p0 (fun a => H1 a = none) H2 G2 dy y)
    (h : W (binD op dx dy) s2 (Post C X p0 st H0 G0 H G env σ Q)) : rBin X.K C op x y H2 Q := by
  have pl2 := x2.pl
  have newT : ∀ {ds : List D} {vs : List V} {f : List Addr} {s' : Strm}, Reps X.K C p0 H2 G2 ds vs f → f.Nodup → (∀ a ∈ f, H a = none) → s' = s2 → Post C X p0 st H0 G0 H G env σ Q (.tup ds) s' → ∀ p, H2 p = none → Q (.ref p) (upd H2 p (.tup vs)) := by
    intro ds vs f s' r n fr e q p hp
    subst e
    exact q.fin g x2 (ex_upd hp) (tup_new r pl2 hp) n fr
  have newL : ∀ {ds : List D} {vs : List V} {f : List Addr} {s' : Strm}, Reps X.K C p0 H2 G2 ds vs f → f.Nodup → (∀ a ∈ f, H a = none) → s' = s2 → Post C X p0 st H0 G0 H G env σ Q (.lst true ds) s' → ∀ p, H2 p = none → Q (.ref p) (upd H2 p (.lst vs)) := by
    intro ds vs f s' r n fr e q p hp
    subst e
    refine q.fin g x2 (ex_upd hp) (lst_new r pl2 hp x2.gs) (fp_new r hp n) fun a ha => ?_
    rcases List.mem_cons.mp ha with rfl | ha
    · exact grow_none g pl2 hp
    · exact fr a ha
  unfold binD at h
  split at h
  · rw [int_of ra, int_of rb]
    exact .inl ⟨_, _, rfl, rfl, Post.flat h g x2 int_rep⟩
  · obtain ⟨c, q⟩ := W_guard.mp (W_bind.mp h)
    obtain ⟨p1, rfl, r1⟩ := rat_of ra
    obtain ⟨p2, rfl, r2⟩ := rat_of rb
    exact .inr (.inl ⟨p1, p2, _, _, rfl, rfl, r1, r2, c.1, c.2, fun r H' e hr => Post.fin q g x2 e (rat_rep hr) .nil (by simp)⟩)
  · obtain ⟨c, q⟩ := W_guard.mp (W_bind.mp h)
    rw [str_of ra, str_of rb]
    exact .inr (.inr (.inl ⟨_, _, rfl, rfl, lim_size c, Post.flat q g x2 str_rep⟩))
  · obtain ⟨c, q⟩ := W_guard.mp (W_bind.mp h)
    obtain ⟨pa, va, f1, rfl, h1, r1, n1, k1⟩ := ea.1 _ rfl
    obtain ⟨pb, vb, f2, rfl, h2, r2, n2, k2⟩ := eb.1 _ rfl
    have l1 := r1.length
    have l2 := r2.length
    refine .inr (.inr (.inr (.inl ⟨pa, pb, va, vb, rfl, rfl, SqT.of h1, SqT.of h2, lim_size (by rw [← l1, ← l2]; exact c), fun e => ?_, fun e1 e2 => ?_, fun e1 e2 p hp => ?_⟩)))
    · subst e
      rw [List.length_eq_zero_iff.mp l1] at q
      exact Post.fin q g x2 Ex.rfl' (by rw [List.nil_append, Rep]; exact ⟨pb, vb, rfl, h2, r2⟩) n2 fun a ha => fr a (k2 a ha)
    · subst e2
      rw [List.length_eq_zero_iff.mp l2] at q
      exact Post.fin q g x2 Ex.rfl' (by rw [List.append_nil, Rep]; exact ⟨pa, va, rfl, h1, r1⟩) n1 fun a ha => (k1 a ha).1
    · refine newT (Reps.append r1 r2) (nodup_app.mpr ⟨n1, n2, fun a h1 h2 => (k1 a h1).2 (k2 a h2)⟩) (fun a ha => ?_) rfl q p hp
      rcases List.mem_append.mp ha with z | z
      · exact (k1 a z).1
      · exact fr a (k2 a z)
  · obtain ⟨c, q⟩ := W_guard.mp (W_bind.mp h)
    obtain ⟨pa, va, f1, rfl, h1, _, r1, n1, k1⟩ := ea.2 _ _ rfl
    obtain ⟨pb, vb, f2, rfl, h2, _, r2, n2, k2⟩ := eb.2 _ _ rfl
    have l1 := r1.length
    have l2 := r2.length
    refine .inr (.inr (.inr (.inr ⟨pa, pb, va, vb, rfl, rfl, h1, h2, lim_size (by rw [← l1, ← l2]; exact c), fun p hp => ?_⟩)))
    refine newL (Reps.append r1 r2) (nodup_app.mpr ⟨n1, n2, fun a h1 h2 => (k1 a h1).2 (k2 a h2)⟩) (fun a ha => ?_) rfl q p hp
    rcases List.mem_append.mp ha with z | z
    · exact (k1 a z).1
    · exact fr a (k2 a z)
  · rw [int_of ra, int_of rb]
    exact .inl ⟨_, _, rfl, rfl, Post.flat h g x2 int_rep⟩
  · obtain ⟨c, q⟩ := W_guard.mp (W_bind.mp h)
    obtain ⟨p1, rfl, r1⟩ := rat_of ra
    obtain ⟨p2, rfl, r2⟩ := rat_of rb
    exact .inr ⟨p1, p2, _, _, rfl, rfl, r1, r2, c.1, c.2, fun r H' e hr => Post.fin q g x2 e (rat_rep hr) .nil (by simp)⟩
  · obtain ⟨c, q⟩ := W_guard.mp (W_bind.mp h)
    rw [int_of ra, int_of rb]
    exact .inl ⟨_, _, rfl, rfl, c, Post.flat q g x2 int_rep⟩
  · obtain ⟨c, q⟩ := W_guard.mp (W_bind.mp h)
    obtain ⟨p1, rfl, r1⟩ := rat_of ra
    obtain ⟨p2, rfl, r2⟩ := rat_of rb
    exact .inr (.inl ⟨p1, p2, _, _, rfl, rfl, r1, r2, c.1, c.2, fun r H' e hr => Post.fin q g x2 e (rat_rep hr) .nil (by simp)⟩)
  · obtain ⟨⟨c1, c2, c3, c4⟩, q⟩ := W_guard.mp (W_bind.mp h)
    obtain ⟨pa, va, f1, rfl, h1, _, r1, n1, k1⟩ := ea.2 _ _ rfl
    rw [int_of rb]
    have l1 := r1.length
    have e1 := r1.noOwn c4
    subst e1
    exact .inr (.inr (.inl ⟨pa, _, va, rfl, rfl, h1, by omega, by omega, lim_size (by rw [← l1]; exact c3), fun p hp => newL (r1.rep _) .nil (by simp) rfl q p hp⟩))
  · obtain ⟨⟨c1, c2, c3, c5, c4⟩, q⟩ := W_guard.mp (W_bind.mp h)
    obtain ⟨pa, va, f1, rfl, h1, r1, n1, k1⟩ := ea.1 _ rfl
    rw [int_of rb]
    have l1 := r1.length
    have e1 := r1.noOwn c4
    subst e1
    rcases Int.lt_or_eq_of_le c1 with one | one
    case inr =>
      subst one
      refine .inr (.inr (.inr (.inr ⟨pa, va, rfl, rfl, SqT.of h1, ?_⟩)))
      have er : ∀ xs : List D, rep xs (1 : Int) = xs := fun xs => by unfold rep; show (List.replicate 1 xs).flatten = xs; rw [List.replicate_one, List.flatten_singleton]
      rw [er] at q
      exact Post.flat (show Post _ _ _ _ _ _ _ _ _ _ _ _ _ from q) g x2 (by rw [Rep]; exact ⟨pa, va, rfl, h1, r1⟩)
    refine .inr (.inr (.inr (.inl ⟨pa, _, va, rfl, rfl, SqT.of h1, fun z => ?_, by omega, c2, by rw [← l1]; exact c3, fun p hp => newT (r1.rep _) .nil (by simp) rfl q p hp⟩)))
    subst z
    rw [List.length_eq_zero_iff.mp l1] at c5
    cases c5
  · obtain ⟨c, q⟩ := W_guard.mp (W_bind.mp h)
    rw [int_of ra, int_of rb]
    exact ⟨_, _, rfl, rfl, c, Post.flat q g x2 int_rep⟩
  · obtain ⟨c, q⟩ := W_guard.mp (W_bind.mp h)
    rw [int_of ra, int_of rb]
    exact ⟨_, _, rfl, rfl, c, Post.flat q g x2 int_rep⟩
  · obtain ⟨c, q⟩ := W_guard.mp (W_bind.mp h)
    rw [int_of ra, int_of rb]
    exact ⟨_, _, rfl, rfl, c, Post.flat q g x2 int_rep⟩
  · exact h.elim
/-- two operands in a row -/
theorem two_b {m1 m2 : ME} {e1 e2 : Expr} (ha : SB C Γ k X m1 e1) (hb : SB C Γ k X m2 e2) : ∃ ta tb, PE X e1 ta ∧ PE X e2 tb ∧ ∀ (p0 : Option Addr) (H0 : Hp) (G0 : GS) (H : Hp) (G : GS) (s : Strm) (env : En) (σ : L2.St) (R : V → V → Hp → Prop), StX X.K C p0 H0 G0 H G s env σ →
    W (bw m1 (ev (callF Γ k) env .p m1)) s (fun dx s1 => W (bw m2 (ev (callF Γ k) env .p m2)) s1 fun dy s2 => ∀ (H1 H2 : Hp) (G2 : GS) (x y : V) (fa fb : List Addr), Grow p0 H G H2 G2 → StX X.K C p0 H0 G0 H2 G2 s2 env σ → (∀ a, H1 a = none → H a = none) →
      Rep X.K C p0 H2 G2 dx x fa → EF X.K C p0 (fun a => H a = none ∧ H1 a ≠ none) H2 G2 dx x → Rep X.K C p0 H2 G2 dy y fb → EF X.K C p0 (fun a => H1 a = none) H2 G2 dy y → R x y H2) →
    ta σ H fun x H1 => tb σ H1 fun y H2 => R x y H2 := by
  obtain ⟨ta, a1, a2⟩ := ha
  obtain ⟨tb, b1, b2⟩ := hb
  refine ⟨ta, tb, a1, b1, fun p0 H0 G0 H G s env σ R x h => a2 p0 H0 G0 H G s env σ _ x (W_mono h fun dx s1 q H1 G1 v fa g1 x1 r1 e1 => ?_)⟩
  refine b2 p0 H0 G0 H1 G1 s1 env σ _ x1 (W_mono q fun dy s2 q H2 G2 u fb g2 x2 r2 e2 => ?_)
  exact q H1 H2 G2 v u fa fb (g1.trans g2) x2 (fun a ha => grow_none g1 x1.pl ha) (r1.grow x1.pl g2) (e1.grow x1.pl g2 fun a xs z y => ⟨z, by rw [y]; simp⟩) r2 e2
theorem se_bin (g : Gd C Γ Gs k X) {op : BOp} {m1 m2 : ME} {e1 e2 : Expr} (ha : SE C Γ k X .p m1 e1) (hb : SE C Γ k X .p m2 e2) : SE C Γ k X p (.bin op m1 m2) (.BinOp e1 (opP op) e2 pos) := by
  obtain ⟨ta, tb, a1, b1, h2⟩ := two_b ha.b hb.b
  refine ⟨_, pe_op (bin_op g op) a1 b1, fun p0 H0 G0 H G s env σ Q x h => ?_⟩
  rw [ev] at h
  refine h2 p0 H0 G0 H G s env σ _ x (W_mono (W_bind.mp h) fun dx s1 q => W_mono (W_bind.mp q) fun dy s2 q H1 H2 G2 x y fa fb g x2 fr r1 e1 r2 e2 => ?_)
  exact bin_sem op x2 g x2.pl fr r1 e1 r2 e2 q
theorem se_neg (g : Gd C Γ Gs k X) {m : ME} {e : Expr} (ha : SE C Γ k X .v m e) : SE C Γ k X p (.neg m) (.UnaryOp .USub e pos) := by
  obtain ⟨t, a1, a2⟩ := ha
  have op : UnR X (unaryOp .USub) (fun x H Q => rU (fun i => .int (-i)) x H Q ∨ ∃ p a, x = .ref p ∧ RatAt C H p a ∧ Sm a ∧ ∀ r H', Ex H H' → RatAt C H' r (-a) → Q (.ref r) H') := by
    intro pins s σ H x v Q I rx q
    rcases q with q | q
    · exact un_neg pins s σ H x v Q I rx q
    · exact g.wd.neg X g.isX g.r pins s σ H x v Q I rx q
  refine ⟨_, pe_un op a1, fun p0 H0 G0 H G s env σ Q x h => ?_⟩
  rw [ev] at h
  refine a2 p0 H0 G0 H G s env σ _ x (W_mono (W_bind.mp h) fun d s1 q H1 G1 v fp g1 x1 r1 _ => ?_)
  unfold negD at q
  split at q
  · rw [int_of r1]
    exact .inl ⟨_, rfl, Post.flat q g1 x1 int_rep⟩
  · obtain ⟨c, q⟩ := W_guard.mp (W_bind.mp q)
    obtain ⟨p1, rfl, r2⟩ := rat_of r1
    exact .inr ⟨p1, _, rfl, r2, c, fun r H' e hr => Post.fin q g1 x1 e (rat_rep hr) .nil (by simp)⟩
  · exact q.elim
end
end Mp

namespace Mp
open PySem PySem.Spec
open PyProof.Rows L2
/-- nothing is known where the evaluator says nothing -/
theorem pe_nev {X : Cx} {e : Expr} : PE X e (fun _ _ _ => False) := ⟨fun _ _ _ _ _ _ h => h.elim⟩
theorem pt_nev {X : Cx} {e : Expr} : PT X e (fun _ _ _ => False) := ⟨fun _ _ _ _ _ _ h => h.elim⟩
def rCmp (K : PySem.W.Frag) (C : Addr) : CmpOp → R2
  | .Eq => rEqv K C false
  | .NotEq => rEqv K C true
  | .Lt => rI0 fun i j => .bl (decide (i < j))
  | .LtE => rI0 fun i j => .bl (decide (i ≤ j))
  | .Gt => rI0 fun i j => .bl (decide (j < i))
  | .GtE => rI0 fun i j => .bl (decide (j ≤ i))
  | .Is => fun x y H Q => y = .non ∧ Q (.bl (decide (x = .non))) H
  | .IsNot => fun x y H Q => y = .non ∧ Q (.bl (!decide (x = .non))) H
  | .In => rInv K C false
  | .NotIn => rInv K C true
section
variable {C : Addr} {Γ : String → Option MDef} {Gs : String → Option Int} {k : Nat} {X : Cx} {p0 : Option Addr} {H H1 H2 H' H0 : Hp} {G G1 G2 G' G0 : GS} {s s2 : Strm} {env : En} {σ : L2.St} {Q : VK} {d : D} {v : V} {fp : List Addr} {st : Bool}
variable {p : Md} {pos pos' : Pos} {j : Nat}
theorem cmp_op (g : Gd C Γ Gs k X) (op : CmpOp) : OpR X (compareOp op) (rCmp X.K C op) := by
  cases op with
  | Eq => exact g.wd.eq X g.isX g.r
  | NotEq => exact g.wd.ne X g.isX g.r
  | Lt => exact op_lt
  | LtE => exact op_le
  | Gt => exact op_gt
  | GtE => exact op_ge
  | Is => exact op_isN
  | IsNot => exact op_notN
  | In => exact g.wd.inn X g.isX g.r
  | NotIn => exact g.wd.nin X g.isX g.r
theorem isNon_v {K : PySem.W.Frag} {a : D} {x : V} {f : List Addr} (r : Rep K C p0 H G a x f) : decide (x = .non) = isNon a := by
  cases a with
  | non => rw [non_of r] <;> rfl
  | bl b => rw [bl_of r] <;> rfl
  | int i => rw [int_of r] <;> rfl
  | str i => rw [str_of r] <;> rfl
  | rat q => obtain ⟨p, rfl, _⟩ := rat_of r; rfl
  | tup ds => obtain ⟨p, vs, rfl, _⟩ := tup_of r; rfl
  | lst o ds => obtain ⟨p, vs, f, rfl, _⟩ := lst_of r; rfl
  | strm => rw [Rep] at r; obtain ⟨p, _, rfl, _⟩ := r; rfl
  | scr ns => rw [Rep] at r; obtain ⟨⟨p, rfl, _⟩, _⟩ := r; rfl
theorem cmp_sem (op : CmpOp) {dx dy : D} {x y : V} {fa fb : List Addr} {R : Bool → Strm → Prop} (pl : PL p0 H2) (ra : Rep X.K C p0 H2 G2 dx x fa) (rb : Rep X.K C p0 H2 G2 dy y fb)
    (h : W (cmpD op dx dy) s2 R) (q : ∀ b H', R b s2 → Ex H2 H' → Q (.bl b) H') : rCmp X.K C op x y H2 Q := by
  unfold cmpD at h
  split at h
  · obtain ⟨c, h⟩ := W_guard.mp (W_bind.mp h)
    obtain ⟨r, e, z⟩ := W_ofO.mp h
    exact ⟨p0, G2, _, _, fa, fb, r, pl, ra, rb, c, e, fun H' x => by simpa using q r H' z x⟩
  · obtain ⟨c, h⟩ := W_guard.mp (W_bind.mp h)
    obtain ⟨r, e, z⟩ := W_ofO.mp (W_bind.mp h)
    exact ⟨p0, G2, _, _, fa, fb, r, pl, ra, rb, c, e, fun H' x => by simpa using q _ H' z x⟩
  · rw [int_of ra, int_of rb]; exact ⟨_, _, rfl, rfl, q _ _ h Ex.rfl'⟩
  · rw [int_of ra, int_of rb]; exact ⟨_, _, rfl, rfl, q _ _ h Ex.rfl'⟩
  · rw [int_of ra, int_of rb]; exact ⟨_, _, rfl, rfl, q _ _ h Ex.rfl'⟩
  · rw [int_of ra, int_of rb]; exact ⟨_, _, rfl, rfl, q _ _ h Ex.rfl'⟩
  · refine ⟨non_of rb, ?_⟩
    rw [isNon_v ra]
    exact q _ _ h Ex.rfl'
  · refine ⟨non_of rb, ?_⟩
    rw [isNon_v ra]
    exact q _ _ h Ex.rfl'
  · obtain ⟨c, h⟩ := W_guard.mp (W_bind.mp h)
    obtain ⟨r, e, z⟩ := W_ofO.mp h
    exact ⟨p0, G2, _, _, fa, fb, r, pl, ra, .inr ⟨_, rb⟩, c, e, fun H' x => by simpa using q r H' z x⟩
  · obtain ⟨c, h⟩ := W_guard.mp (W_bind.mp h)
    obtain ⟨r, e, z⟩ := W_ofO.mp h
    exact ⟨p0, G2, _, _, fa, fb, r, pl, ra, .inl rb, c, e, fun H' x => by simpa using q r H' z x⟩
  · obtain ⟨c, h⟩ := W_guard.mp (W_bind.mp h)
    obtain ⟨r, e, z⟩ := W_ofO.mp (W_bind.mp h)
    exact ⟨p0, G2, _, _, fa, fb, r, pl, ra, .inr ⟨_, rb⟩, c, e, fun H' x => by simpa using q _ H' z x⟩
  · obtain ⟨c, h⟩ := W_guard.mp (W_bind.mp h)
    obtain ⟨r, e, z⟩ := W_ofO.mp (W_bind.mp h)
    exact ⟨p0, G2, _, _, fa, fb, r, pl, ra, .inl rb, c, e, fun H' x => by simpa using q _ H' z x⟩
  · exact h.elim
/-- two expressions in a row, what they are looked at -/
theorem two_p {pa pb : Md} {m1 m2 : ME} {e1 e2 : Expr} (ha : SE C Γ k X pa m1 e1) (hb : SE C Γ k X pb m2 e2) : ∃ ta tb, PE X e1 ta ∧ PE X e2 tb ∧ ∀ (p0 : Option Addr) (H0 : Hp) (G0 : GS) (H : Hp) (G : GS) (s : Strm) (env : En) (σ : L2.St) (R : V → V → Hp → Prop), StX X.K C p0 H0 G0 H G s env σ →
    W (ev (callF Γ k) env pa m1) s (fun dx s1 => W (ev (callF Γ k) env pb m2) s1 fun dy s2 => ∀ (H2 : Hp) (G2 : GS) (x y : V) (fa fb : List Addr), Grow p0 H G H2 G2 → StX X.K C p0 H0 G0 H2 G2 s2 env σ →
      Rep X.K C p0 H2 G2 dx x fa → (strict pa m1 = true → fa.Nodup ∧ ∀ a ∈ fa, H a = none) → Rep X.K C p0 H2 G2 dy y fb → R x y H2) →
    ta σ H fun x H1 => tb σ H1 fun y H2 => R x y H2 := by
  obtain ⟨ta, a1, a2⟩ := ha
  obtain ⟨tb, b1, b2⟩ := hb
  refine ⟨ta, tb, a1, b1, fun p0 H0 G0 H G s env σ R x h => a2 p0 H0 G0 H G s env σ _ x (W_mono h fun dx s1 q H1 G1 v fa g1 x1 r1 z1 => ?_)⟩
  exact b2 p0 H0 G0 H1 G1 s1 env σ _ x1 (W_mono q fun dy s2 q H2 G2 u fb g2 x2 r2 _ => q H2 G2 v u fa fb (g1.trans g2) x2 (r1.grow x1.pl g2) z1 r2)
theorem se_cmp (g : Gd C Γ Gs k X) {op : CmpOp} {m1 m2 : ME} {e1 e2 : Expr} (ha : SE C Γ k X .p m1 e1) (hb : SE C Γ k X .p m2 e2) (hm : behindInMarks op e2 = false) :
    SE C Γ k X p (.cmp op m1 m2) (.Compare e1 [op] [e2] pos) ∧ ST C Γ k X (.cmp op m1 m2) (.Compare e1 [op] [e2] pos) := by
  obtain ⟨ta, tb, a1, b1, h2⟩ := two_p ha hb
  refine ⟨⟨_, pe_cmpR (cmp_op g op) a1 b1 hm, fun p0 H0 G0 H G s env σ Q x h => ?_⟩, ⟨_, pt_cmpR (cmp_op g op) a1 b1 hm, fun p0 H0 G0 H G s env σ Q x h => ?_⟩⟩
  · rw [ev] at h
    refine h2 p0 H0 G0 H G s env σ _ x (W_mono (W_bind.mp h) fun dx s1 q => W_mono (W_bind.mp q) fun dy s2 q H2 G2 x y fa fb g x2 r1 _ r2 => ?_)
    refine cmp_sem op x2.pl r1 r2 (W_bind.mp q) fun b H' q e => ?_
    exact Post.fin q g x2 e bl_rep .nil (by simp)
  · unfold tru at h
    rw [ev] at h
    have h := W_bind.mp h
    refine h2 p0 H0 G0 H G s env σ _ x (W_mono (W_bind.mp h) fun dx s1 q => W_mono (W_bind.mp q) fun dy s2 q H2 G2 x y fa fb g x2 r1 _ r2 => ?_)
    refine cmp_sem op x2.pl r1 r2 (W_bind.mp q) fun b H' q e => ⟨b, rfl, ?_⟩
    exact q H' G2 (g.trans (grow_ex e)) (x2.ex' e)
theorem se_chain (g : Gd C Γ Gs k X) {op op' : CmpOp} {m1 m2 m3 : ME} {e1 e2 e3 : Expr} (ha : SE C Γ k X .v m1 e1) (hb : SE C Γ k X .v m2 e2) (hc : SE C Γ k X .v m3 e3) (hm : lastMarks [op, op'] [e2, e3] = false) :
    SE C Γ k X p (.chain op op' m1 m2 m3) (.Compare e1 [op, op'] [e2, e3] pos) ∧ ST C Γ k X (.chain op op' m1 m2 m3) (.Compare e1 [op, op'] [e2, e3] pos) := by
  obtain ⟨ta, tb, a1, b1, h2⟩ := two_p ha hb
  obtain ⟨tc, c1, c2⟩ := hc
  refine ⟨⟨_, pe_chain (cmp_op g op) (cmp_op g op') a1 b1 c1 hm, fun p0 H0 G0 H G s env σ Q x h => ?_⟩, ⟨_, pt_chain (cmp_op g op) (cmp_op g op') a1 b1 c1 hm, fun p0 H0 G0 H G s env σ Q x h => ?_⟩⟩
  · rw [ev] at h
    refine h2 p0 H0 G0 H G s env σ _ x (W_mono (W_bind.mp h) fun dx s1 q => W_mono (W_bind.mp q) fun dy s2 q H2 G2 x y fa fb g x2 r1 _ r2 => ?_)
    refine cmp_sem op x2.pl r1 r2 (W_bind.mp q) fun b H' q e => ⟨b, rfl, ?_⟩
    have x3 := x2.ex' e
    cases b with
    | false => exact ite2 (fun z => by cases z) fun _ => Post.fin q g x2 e bl_rep .nil (by simp)
    | true =>
      refine ite2 (fun _ => ?_) fun z => absurd rfl z
      refine c2 p0 H0 G0 H' G2 s2 env σ _ x3 (W_mono (W_bind.mp q) fun dz s3 q H3 G3 z fz g3 x4 r3 _ => ?_)
      refine cmp_sem op' x4.pl ((r2.grow x2.pl (grow_ex e)).grow x3.pl g3) r3 (W_bind.mp q) fun b H' q e' => ?_
      exact Post.fin q ((g.trans (grow_ex e)).trans g3) x4 e' bl_rep .nil (by simp)
  · unfold tru at h
    rw [ev] at h
    have h := W_bind.mp h
    refine h2 p0 H0 G0 H G s env σ _ x (W_mono (W_bind.mp h) fun dx s1 q => W_mono (W_bind.mp q) fun dy s2 q H2 G2 x y fa fb g x2 r1 _ r2 => ?_)
    refine cmp_sem op x2.pl r1 r2 (W_bind.mp q) fun b H' q e => ⟨b, rfl, ?_⟩
    have x3 := x2.ex' e
    cases b with
    | false => exact ite2 (fun z => by cases z) fun _ => ⟨false, rfl, q H' G2 (g.trans (grow_ex e)) (x2.ex' e)⟩
    | true =>
      refine ite2 (fun _ => ?_) fun z => absurd rfl z
      refine c2 p0 H0 G0 H' G2 s2 env σ _ x3 (W_mono (W_bind.mp q) fun dz s3 q H3 G3 z fz g3 x4 r3 _ => ?_)
      refine cmp_sem op' x4.pl ((r2.grow x2.pl (grow_ex e)).grow x3.pl g3) r3 (W_bind.mp q) fun b H' q e' => ⟨b, rfl, ?_⟩
      exact q H' G3 (((g.trans (grow_ex e)).trans g3).trans (grow_ex e')) (x4.ex' e')
/-! ### truth -/
theorem isEmpty_len {α β : Type} {xs : List α} {ys : List β} (h : xs.length = ys.length) : xs.isEmpty = ys.isEmpty := by
  cases xs <;> cases ys <;> first | rfl | cases h
theorem truth_sem {a : D} {x : V} {f : List Addr} {R : Bool → Strm → Prop} (r : Rep X.K C p0 H G a x f) (h : W (truth a) s R) : ∃ b, TruV X.K x H b ∧ R b s := by
  unfold truth at h
  split at h
  · rw [non_of r]; exact ⟨_, rfl, h⟩
  · rw [bl_of r]; exact ⟨_, rfl, h⟩
  · rw [int_of r]; exact ⟨_, rfl, h⟩
  · obtain ⟨p, vs, rfl, h1, r1⟩ := tup_of r
    refine ⟨_, .inr (.inl ⟨vs, SqT.of h1, ?_⟩), h⟩
    rw [isEmpty_len r1.length]
  · obtain ⟨p, vs, f, rfl, h1, _, r1, _⟩ := lst_of r
    refine ⟨_, .inl ⟨vs, SqL.of h1, ?_⟩, h⟩
    rw [isEmpty_len r1.length]
  · exact h.elim
/-- any expression as a test -/
theorem SE.t {m : ME} {e : Expr} (h : SE C Γ k X .t m e) (he : ∀ whole, isTrue e X.env whole = (do let v ← whole; standAt e.pos; holding [v] (truthy v))) : ST C Γ k X m e := by
  obtain ⟨t, a, b⟩ := h
  refine ⟨_, pt_truth a he, fun p0 H0 G0 H G s env σ Q x h => b p0 H0 G0 H G s env σ _ x (W_mono (W_bind.mp h) fun d s1 q H1 G1 v fp g1 x1 r1 _ => ?_)⟩
  obtain ⟨c, c1, c2⟩ := truth_sem r1 q
  exact ⟨c, c1, c2 H1 G1 g1 x1⟩
theorem se_not {m : ME} {e : Expr} (ha : SE C Γ k X .p m e) (hp : p ≠ .t) : SE C Γ k X p (.not m) (.UnaryOp .Not e pos) := by
  obtain ⟨t, a, b⟩ := ha
  refine ⟨_, pe_notT a, fun p0 H0 G0 H G s env σ Q x h => ?_⟩
  have h : W (notB (tru (ev (callF Γ k) env .p m))) s (Post C X p0 (strict p (.not m)) H0 G0 H G env σ Q) := by
    cases p <;> first | exact absurd rfl hp | exact h
  unfold notB tru at h
  refine b p0 H0 G0 H G s env σ _ x (W_mono (W_bind.mp (W_bind.mp h)) fun d s1 q H1 G1 v fp g1 x1 r1 _ => ?_)
  obtain ⟨c, c1, c2⟩ := truth_sem r1 q
  exact ⟨c, c1, Post.flat c2 g1 x1 bl_rep⟩
theorem st_not {m : ME} {e : Expr} (ha : ST C Γ k X m e) : ST C Γ k X (.not m) (.UnaryOp .Not e pos) := by
  obtain ⟨t, a, b⟩ := ha
  refine ⟨_, pt_not a, fun p0 H0 G0 H G s env σ Q x h => ?_⟩
  have h : W (tru (notB (tru (ev (callF Γ k) env .t m)))) s _ := h
  unfold tru notB at h
  exact b p0 H0 G0 H G s env σ _ x (W_mono (W_bind.mp (W_bind.mp h)) fun c s1 q H1 G1 g1 x1 => q H1 G1 g1 x1)
theorem toB_sem {a : D} {x : V} {f : List Addr} {R : Bool → Strm → Prop} (r : Rep X.K C p0 H G a x f) (h : W (toB a) s R) : ∃ b, x = .bl b ∧ R b s := by
  unfold toB at h
  split at h
  · rw [bl_of r]; exact ⟨_, rfl, h⟩
  · exact h.elim
theorem strict_v {m : ME} : strict .v m = true := rfl
theorem Post.strict' (h : Post C X p0 true H0 G0 H G env σ Q d s2) : Post C X p0 st H0 G0 H G env σ Q d s2 → Post C X p0 st H0 G0 H G env σ Q d s2 := id
theorem se_and {a b : Expr} {rest : List Expr} {m1 m2 : ME} (ha : SE C Γ k X .v m1 a) (hb : SE C Γ k X .v m2 (.BoolOp .And (b :: rest) pos)) (hp : p ≠ .t) : SE C Γ k X p (.and m1 m2) (.BoolOp .And (a :: b :: rest) pos) := by
  obtain ⟨t, a1, a2⟩ := ha
  obtain ⟨u, b1, b2⟩ := hb
  refine ⟨_, pe_and a1 b1, fun p0 H0 G0 H G s env σ Q x h => ?_⟩
  have e : strict p (.and m1 m2) = true := by cases p <;> rfl
  rw [e] at h
  have h : W (do
      let x ← ev (callF Γ k) env .v m1
      let c ← toB x
      if c then ev (callF Γ k) env .v m2 else pure (.bl false)) s (Post C X p0 true H0 G0 H G env σ Q) := by
    cases p <;> first | exact absurd rfl hp | exact h
  refine a2 p0 H0 G0 H G s env σ _ x (W_mono (W_bind.mp h) fun d s1 q H1 G1 v fp g1 x1 r1 _ => ?_)
  obtain ⟨c, rfl, q⟩ := toB_sem r1 (W_bind.mp q)
  refine ⟨c, rfl, ?_⟩
  cases c with
  | false => exact ite2 (fun z => by cases z) fun _ => Post.flat (show Post _ _ _ _ _ _ _ _ _ _ _ _ _ from q) g1 x1 bl_rep
  | true =>
    refine ite2 (fun _ => ?_) fun z => absurd rfl z
    refine b2 p0 H0 G0 H1 G1 s1 env σ _ x1 (W_mono q fun d s2 q H2 G2 v fp g2 x2 r2 z2 => ?_)
    refine q H2 G2 v fp (g1.trans g2) x2 r2 fun _ => ?_
    obtain ⟨n, f⟩ := z2 rfl
    exact ⟨n, fun a ha => grow_none g1 x1.pl (f a ha)⟩
theorem se_or {a b : Expr} {rest : List Expr} {m1 m2 : ME} (ha : SE C Γ k X .v m1 a) (hb : SE C Γ k X .v m2 (.BoolOp .Or (b :: rest) pos)) (hp : p ≠ .t) : SE C Γ k X p (.or m1 m2) (.BoolOp .Or (a :: b :: rest) pos) := by
  obtain ⟨t, a1, a2⟩ := ha
  obtain ⟨u, b1, b2⟩ := hb
  refine ⟨_, pe_or a1 b1, fun p0 H0 G0 H G s env σ Q x h => ?_⟩
  have e : strict p (.or m1 m2) = true := by cases p <;> rfl
  rw [e] at h
  have h : W (do
      let x ← ev (callF Γ k) env .v m1
      let c ← toB x
      if c then pure (.bl true) else ev (callF Γ k) env .v m2) s (Post C X p0 true H0 G0 H G env σ Q) := by
    cases p <;> first | exact absurd rfl hp | exact h
  refine a2 p0 H0 G0 H G s env σ _ x (W_mono (W_bind.mp h) fun d s1 q H1 G1 v fp g1 x1 r1 _ => ?_)
  obtain ⟨c, rfl, q⟩ := toB_sem r1 (W_bind.mp q)
  refine ⟨c, rfl, ?_⟩
  cases c with
  | true => exact ite2 (fun _ => Post.flat (show Post _ _ _ _ _ _ _ _ _ _ _ _ _ from q) g1 x1 bl_rep) fun z => absurd rfl z
  | false =>
    refine ite2 (fun z => by cases z) fun _ => ?_
    refine b2 p0 H0 G0 H1 G1 s1 env σ _ x1 (W_mono q fun d s2 q H2 G2 v fp g2 x2 r2 z2 => ?_)
    refine q H2 G2 v fp (g1.trans g2) x2 r2 fun _ => ?_
    obtain ⟨n, f⟩ := z2 rfl
    exact ⟨n, fun a ha => grow_none g1 x1.pl (f a ha)⟩
theorem se_one {op : BoolOp} {a : Expr} {m : ME} (ha : SE C Γ k X p m a) : SE C Γ k X p m (.BoolOp op [a] pos) := by
  obtain ⟨t, a1, a2⟩ := ha
  exact ⟨t, pe_one a1, a2⟩
theorem sw_and1 {a : Expr} {m : ME} (ha : ST C Γ k X m a) : SW C Γ k X m (.BoolOp .And [a] pos) := by
  obtain ⟨t, a1, a2⟩ := ha
  exact ⟨t, pw_and1 a1, a2⟩
theorem sw_or1 {a : Expr} {m : ME} (ha : ST C Γ k X m a) : SW C Γ k X m (.BoolOp .Or [a] pos) := by
  obtain ⟨t, a1, a2⟩ := ha
  exact ⟨t, pw_or1 a1, a2⟩
theorem sw_and {a b : Expr} {rest : List Expr} {m1 m2 : ME} (ha : ST C Γ k X m1 a) (hb : SW C Γ k X m2 (.BoolOp .And (b :: rest) pos)) : SW C Γ k X (.and m1 m2) (.BoolOp .And (a :: b :: rest) pos) := by
  obtain ⟨t, a1, a2⟩ := ha
  obtain ⟨u, b1, b2⟩ := hb
  refine ⟨_, pw_and a1 b1, fun p0 H0 G0 H G s env σ Q x h => ?_⟩
  have h := W_bind.mp (show W ((do
      let c ← tru (ev (callF Γ k) env .t m1)
      if c then do let r ← tru (ev (callF Γ k) env .t m2); pure (D.bl r) else pure (.bl false) : M D) >>= truth) s _ from h)
  refine a2 p0 H0 G0 H G s env σ _ x (W_mono (W_bind.mp h) fun c s1 q H1 G1 g1 x1 => ?_)
  cases c with
  | false => exact ite2 (fun z => by cases z) fun _ => (show ∀ H' G', Grow p0 H G H' G' → StX X.K C p0 H0 G0 H' G' s1 env σ → Q false H' from q) H1 G1 g1 x1
  | true =>
    refine ite2 (fun _ => ?_) fun z => absurd rfl z
    have q := W_bind.mp (show W (tru (ev (callF Γ k) env .t m2) >>= fun r => pure (D.bl r)) s1 _ from q)
    refine b2 p0 H0 G0 H1 G1 s1 env σ _ x1 (W_mono q fun c s2 q H2 G2 g2 x2 => ?_)
    exact (show ∀ H' G', Grow p0 H G H' G' → StX X.K C p0 H0 G0 H' G' s2 env σ → Q c H' from q) H2 G2 (g1.trans g2) x2
theorem sw_or {a b : Expr} {rest : List Expr} {m1 m2 : ME} (ha : ST C Γ k X m1 a) (hb : SW C Γ k X m2 (.BoolOp .Or (b :: rest) pos)) : SW C Γ k X (.or m1 m2) (.BoolOp .Or (a :: b :: rest) pos) := by
  obtain ⟨t, a1, a2⟩ := ha
  obtain ⟨u, b1, b2⟩ := hb
  refine ⟨_, pw_or a1 b1, fun p0 H0 G0 H G s env σ Q x h => ?_⟩
  have h := W_bind.mp (show W ((do
      let c ← tru (ev (callF Γ k) env .t m1)
      if c then pure (.bl true) else do let r ← tru (ev (callF Γ k) env .t m2); pure (D.bl r) : M D) >>= truth) s _ from h)
  refine a2 p0 H0 G0 H G s env σ _ x (W_mono (W_bind.mp h) fun c s1 q H1 G1 g1 x1 => ?_)
  cases c with
  | true => exact ite2 (fun _ => (show ∀ H' G', Grow p0 H G H' G' → StX X.K C p0 H0 G0 H' G' s1 env σ → Q true H' from q) H1 G1 g1 x1) fun z => absurd rfl z
  | false =>
    refine ite2 (fun z => by cases z) fun _ => ?_
    have q := W_bind.mp (show W (tru (ev (callF Γ k) env .t m2) >>= fun r => pure (D.bl r)) s1 _ from q)
    refine b2 p0 H0 G0 H1 G1 s1 env σ _ x1 (W_mono q fun c s2 q H2 G2 g2 x2 => ?_)
    exact (show ∀ H' G', Grow p0 H G H' G' → StX X.K C p0 H0 G0 H' G' s2 env σ → Q c H' from q) H2 G2 (g1.trans g2) x2
theorem se_ifx {c a b : Expr} {mc ma mb : ME} (hc : ST C Γ k X mc c) (ha : SE C Γ k X .v ma a) (hb : SE C Γ k X .v mb b) (hp : p ≠ .t) : SE C Γ k X p (.ifx mc ma mb) (.IfExp c a b pos) := by
  obtain ⟨t, c1, c2⟩ := hc
  obtain ⟨ta, a1, a2⟩ := ha
  obtain ⟨tb, b1, b2⟩ := hb
  refine ⟨_, pe_ifExp c1 a1 b1, fun p0 H0 G0 H G s env σ Q x h => ?_⟩
  have e : strict p (.ifx mc ma mb) = true := by cases p <;> rfl
  rw [e] at h
  have h : W (do
      let r ← tru (ev (callF Γ k) env .t mc)
      if r then ev (callF Γ k) env .v ma else ev (callF Γ k) env .v mb) s (Post C X p0 true H0 G0 H G env σ Q) := by
    cases p <;> first | exact absurd rfl hp | exact h
  refine c2 p0 H0 G0 H G s env σ _ x (W_mono (W_bind.mp h) fun c s1 q H1 G1 g1 x1 => ?_)
  cases c with
  | true =>
    refine ite2 (fun _ => ?_) fun z => absurd rfl z
    refine a2 p0 H0 G0 H1 G1 s1 env σ _ x1 (W_mono q fun d s2 q H2 G2 v fp g2 x2 r2 z2 => ?_)
    refine q H2 G2 v fp (g1.trans g2) x2 r2 fun _ => ?_
    obtain ⟨n, f⟩ := z2 rfl
    exact ⟨n, fun a ha => grow_none g1 x1.pl (f a ha)⟩
  | false =>
    refine ite2 (fun z => by cases z) fun _ => ?_
    refine b2 p0 H0 G0 H1 G1 s1 env σ _ x1 (W_mono q fun d s2 q H2 G2 v fp g2 x2 r2 z2 => ?_)
    refine q H2 G2 v fp (g1.trans g2) x2 r2 fun _ => ?_
    obtain ⟨n, f⟩ := z2 rfl
    exact ⟨n, fun a ha => grow_none g1 x1.pl (f a ha)⟩
end
end Mp

namespace Mp
open PySem PySem.Spec
open PyProof.Rows L2
section
variable {C : Addr} {Γ : String → Option MDef} {Gs : String → Option Int} {k : Nat} {X : Cx} {p0 : Option Addr} {H H1 H2 H' H0 : Hp} {G G1 G2 G' G0 : GS} {s s2 : Strm} {env : En} {σ : L2.St} {Q : VK} {d : D} {v : V} {fp : List Addr} {st : Bool}
variable {p : Md} {pos pos' : Pos} {j : Nat}
theorem pix_at {vs : List V} {i : Int} {ds : List D} {r : D} {K : PySem.W.Frag} {f : List Addr} (a : Reps K C p0 H G ds vs f) (h : (pix ds.length i).bind (fun j => ds[j]?) = some r) :
    ∃ w g, atI vs i = some w ∧ Rep K C p0 H G r w g ∧ (∀ x ∈ g, x ∈ f) ∧ (f.Nodup → g.Nodup) := by
  cases e : pix ds.length i with
  | none => rw [e] at h; cases h
  | some j =>
    rw [e] at h
    obtain ⟨w, g, e1, e2, e3, e4⟩ := a.get (j := j) (d := r) h
    refine ⟨w, g, ?_, e2, e3, e4⟩
    unfold atI
    rw [a.length] at e
    show (pix vs.length i).bind _ = _
    rw [e]
    exact e1
theorem se_ix {m1 m2 : ME} {e1 e2 : Expr} (ha : SE C Γ k X .p m1 e1) (hb : SE C Γ k X .v m2 e2) (hs : PlainIx e2) : SE C Γ k X p (.ix m1 m2) (.Subscript e1 e2 pos) := by
  obtain ⟨ta, tb, a1, b1, h2⟩ := two_p ha hb
  refine ⟨_, pe_ix ix_seq a1 b1 hs, fun p0 H0 G0 H G s env σ Q x h => ?_⟩
  rw [ev] at h
  refine h2 p0 H0 G0 H G s env σ _ x (W_mono (W_bind.mp h) fun dx s1 q => W_mono (W_bind.mp q) fun dy s2 q H2 G2 x y fa fb g x2 r1 z1 r2 => ?_)
  have fin : ∀ {r : D} {w : V} {f : List Addr} {s' : Strm}, s' = s2 → W (do guardM (p ≠ .v ∨ isPath m1 = false ∨ r.noOwn = true); pure r : M D) s' (Post C X p0 (strict p (.ix m1 m2)) H0 G0 H G env σ Q) → Rep X.K C p0 H2 G2 r w f → (isPath m1 = false → f.Nodup ∧ ∀ a ∈ f, H a = none) → Q w H2 := by
    intro r w f s' e hq hr hf
    rw [e] at hq
    obtain ⟨c, hq⟩ := W_guard.mp (W_bind.mp hq)
    refine (show Post _ _ _ _ _ _ _ _ _ _ _ _ _ from hq) H2 G2 w f g x2 hr fun z => ?_
    have c : isPath m1 = false ∨ r.noOwn = true := by
      cases hp : isPath m1 with
      | false => exact .inl rfl
      | true =>
        have : p = .v := by
          cases p <;> first | rfl | (exfalso; revert z; simp [strict, isPath, hp])
        rcases c with c | c | c
        · exact absurd this c
        · rw [hp] at c; cases c
        · exact .inr c
    rcases c with c | c
    · exact hf c
    · rw [hr.noOwn c]
      exact ⟨.nil, by simp⟩
  have q := W_bind.mp q
  unfold ixD at q
  split at q
  · obtain ⟨r, e, q⟩ := W_ofO.mp q
    obtain ⟨p1, vs, rfl, e1, r1⟩ := tup_of r1
    obtain ⟨w, f, a1, a2, a3, a4⟩ := pix_at r1 e
    rw [int_of r2]
    exact .inr (.inl ⟨p1, vs, _, w, rfl, rfl, SqT.of e1, a1, fin rfl q a2 fun z => ⟨a4 (z1 (by simp [strict, z])).1, fun x hx => (z1 (by simp [strict, z])).2 x (a3 x hx)⟩⟩)
  · obtain ⟨r, e, q⟩ := W_ofO.mp q
    obtain ⟨p1, vs, f', rfl, e1, _, r1, e5⟩ := lst_of r1
    obtain ⟨w, f, a1, a2, a3, a4⟩ := pix_at r1 e
    rw [int_of r2]
    refine .inl ⟨p1, vs, _, w, rfl, rfl, SqL.of e1, a1, fin rfl q a2 fun z => ?_⟩
    have hz := z1 (by simp [strict, z])
    rcases e5 with e5 | e5
    · rw [e5] at hz
      exact ⟨a4 (List.nodup_cons.mp hz.1).2, fun x hx => hz.2 x (List.mem_cons_of_mem _ (a3 x hx))⟩
    · rw [e5] at a3 a4
      exact ⟨a4 .nil, fun x hx => absurd (a3 x hx) (by simp)⟩
  · rename_i i q0 q1
    rw [Rep] at r1
    obtain ⟨pp, hp, rfl, _⟩ := r1
    obtain ⟨pc, b1, b2, b3, b4, b5⟩ := x2.strm pp hp
    rw [int_of r2]
    have q := W_getS.mp (W_bind.mp q)
    have flat : ∀ {r : D} {w : V} {s' : Strm}, s' = s2 → W (do guardM (p ≠ .v ∨ isPath m1 = false ∨ r.noOwn = true); pure r : M D) s' (Post C X p0 (strict p (.ix m1 m2)) H0 G0 H G env σ Q) → Rep X.K C p0 H2 G2 r w [] → Q w H2 := fun e q r => fin e q r fun _ => ⟨.nil, by simp⟩
    by_cases i0 : i = 0
    · subst i0
      refine .inl ⟨pp, _, _, .ref pc, rfl, rfl, SqL.of b1, rfl, flat rfl q ?_⟩
      rw [Rep]
      refine ⟨pc, s2.cells.map .int, [], rfl, b2, fun z => ?_, ?_, .inr ⟨rfl, b4, rfl, rfl⟩⟩
      · rw [hp] at z
        exact b3 (Option.some.inj z)
      · refine Reps.of_get (by simp) fun j d v h1 h2 => ?_
        rw [List.getElem?_map] at h1 h2
        cases hc : s2.cells[j]? with
        | none => rw [hc] at h1; cases h1
        | some n =>
          rw [hc] at h1 h2
          cases h1
          cases h2
          exact int_rep
    · have q := W_ite.mp q
      rw [if_neg i0] at q
      by_cases i1 : i = 1
      · subst i1
        exact .inl ⟨pp, _, _, .int s2.cell, rfl, rfl, SqL.of b1, rfl, flat rfl q int_rep⟩
      · have q := W_ite.mp q
        rw [if_neg i1] at q
        by_cases i2 : i = 2
        · subst i2
          exact .inl ⟨pp, _, _, .int s2.ix, rfl, rfl, SqL.of b1, rfl, flat rfl q int_rep⟩
        · have q := W_ite.mp q
          rw [if_neg i2] at q
          by_cases i3 : i = 3
          · subst i3
            exact .inl ⟨pp, _, _, .int s2.mixed, rfl, rfl, SqL.of b1, rfl, flat rfl q int_rep⟩
          · have q := W_ite.mp q
            rw [if_neg i3] at q
            exact q.elim
  · exact q.elim
/-! ### slices -/
/-- a slice's part -/
def SO (C : Addr) (Γ : String → Option MDef) (k : Nat) (X : Cx) (m : ME) (o : Option Expr) : Prop := ∃ t, PO X o t ∧ ∀ (p0 : Option Addr) (H0 : Hp) (G0 : GS) (H : Hp) (G : GS) (s : Strm) (env : En) (σ : L2.St) (Q : Option Int → Hp → Prop), StX X.K C p0 H0 G0 H G s env σ →
  W (optI m (ev (callF Γ k) env .v m)) s (fun i s' => ∀ H' G', Grow p0 H G H' G' → StX X.K C p0 H0 G0 H' G' s' env σ → Q i H') → t σ H Q
theorem so_none : SO C Γ k X .nop none := ⟨_, po_none, fun p0 H0 G0 H G s env σ Q x h => (show ∀ H' G', Grow p0 H G H' G' → StX X.K C p0 H0 G0 H' G' s env σ → Q none H' from h) H G Grow.rfl' x⟩
theorem so_some {m : ME} {e : Expr} (h : SE C Γ k X .v m e) (hm : isNop m = false) : SO C Γ k X m (some e) := by
  obtain ⟨t, a, b⟩ := h
  refine ⟨_, po_some a, fun p0 H0 G0 H G s env σ Q x h => ?_⟩
  unfold optI at h
  rw [hm] at h
  have h := W_bind.mp (show W (ev (callF Γ k) env .v m >>= _) s _ from h)
  refine b p0 H0 G0 H G s env σ _ x (W_mono h fun d s1 q H1 G1 v fp g1 x1 r1 _ => ?_)
  split at q
  · rw [int_of r1]
    exact ⟨_, rfl, (show ∀ H' G', _ → _ → _ from q) H1 G1 g1 x1⟩
  · exact q.elim
theorem cut_drop {K : PySem.W.Frag} : ∀ {ds : List D} {vs : List V} {f : List Addr} (n : Nat), Reps K C p0 H G ds vs f → ∃ g, Reps K C p0 H G (ds.drop n) (vs.drop n) g ∧ (∀ x ∈ g, x ∈ f) ∧ (f.Nodup → g.Nodup)
  | [], _, _, n, r => by
    obtain ⟨rfl, rfl⟩ := Reps.nil_iff.mp r
    exact ⟨[], by simpa using r, by simp, fun h => h⟩
  | d :: ds, _, f, 0, r => ⟨f, by simpa using r, fun _ h => h, fun h => h⟩
  | d :: ds, _, _, n + 1, r => by
    obtain ⟨v, r', f, g, rfl, rfl, a, b⟩ := Reps.cons_iff.mp r
    obtain ⟨g', h1, h2, h3⟩ := cut_drop n b
    exact ⟨g', by simpa using h1, fun x hx => List.mem_append_right _ (h2 x hx), fun z => h3 (nodup_app.mp z).2.1⟩
theorem cut_take {K : PySem.W.Frag} : ∀ {ds : List D} {vs : List V} {f : List Addr} (n : Nat), Reps K C p0 H G ds vs f → ∃ g, Reps K C p0 H G (ds.take n) (vs.take n) g ∧ (∀ x ∈ g, x ∈ f) ∧ (f.Nodup → g.Nodup)
  | [], _, _, n, r => by
    obtain ⟨rfl, rfl⟩ := Reps.nil_iff.mp r
    exact ⟨[], by simpa using r, by simp, fun h => h⟩
  | d :: ds, _, f, 0, r => ⟨[], Reps.nil, by simp, fun _ => .nil⟩
  | d :: ds, _, _, n + 1, r => by
    obtain ⟨v, r', f, g, rfl, rfl, a, b⟩ := Reps.cons_iff.mp r
    obtain ⟨g', h1, h2, h3⟩ := cut_take n b
    refine ⟨f ++ g', by simpa using Reps.cons a h1, fun x hx => ?_, fun z => ?_⟩
    · exact (List.mem_append.mp hx).elim (fun h => List.mem_append_left _ h) fun h => List.mem_append_right _ (h2 x h)
    · obtain ⟨n1, n2, n3⟩ := nodup_app.mp z
      exact nodup_app.mpr ⟨n1, h3 n2, fun x hx hy => n3 x hx (h2 x hy)⟩
theorem cut_rep {K : PySem.W.Frag} {ds : List D} {vs : List V} {f : List Addr} (lo hi : Option Int) (r : Reps K C p0 H G ds vs f) : ∃ g, Reps K C p0 H G (cut ds lo hi) (cutV vs lo hi) g ∧ (∀ x ∈ g, x ∈ f) ∧ (f.Nodup → g.Nodup) := by
  unfold cut cutV
  rw [show HT.sIx = six from rfl, r.length]
  obtain ⟨g, a, b, c⟩ := cut_drop (six vs.length 0 lo) r
  obtain ⟨g', a', b', c'⟩ := cut_take (six vs.length vs.length hi - six vs.length 0 lo) a
  exact ⟨g', a', fun x hx => b x (b' x hx), fun z => c' (c z)⟩
theorem se_sl {m l h : ME} {e : Expr} {lo hi : Option Expr} {p2 : Pos} (ha : SE C Γ k X .p m e) (hl : SO C Γ k X l lo) (hh : SO C Γ k X h hi) : SE C Γ k X p (.sl m l h) (.Subscript e (.Slice lo hi none p2) pos) := by
  obtain ⟨ta, a1, a2⟩ := ha.b
  obtain ⟨tl, b1, b2⟩ := hl
  obtain ⟨th, c1, c2⟩ := hh
  refine ⟨_, pe_slice (SlR.or sl_list sl_tupA) a1 b1 c1, fun p0 H0 G0 H G s env σ Q x h => ?_⟩
  rw [ev] at h
  have est : strict p (.sl m l ‹ME›) = true := by cases p <;> rfl
  rw [est] at h
  refine a2 p0 H0 G0 H G s env σ _ x (W_mono (W_bind.mp h) fun d s1 q H1 G1 v fp g1 x1 r1 ef => ?_)
  refine b2 p0 H0 G0 H1 G1 s1 env σ _ x1 (W_mono (W_bind.mp q) fun lv s2 q H2 G2 g2 x2 => ?_)
  refine c2 p0 H0 G0 H2 G2 s2 env σ _ x2 (W_mono (W_bind.mp q) fun hv s3 q H3 G3 g3 x3 => ?_)
  have g := (g1.trans g2).trans g3
  have r3 := (r1.grow x1.pl g2).grow x2.pl g3
  have ef := (ef.grow (F' := fun a => H a = none) x1.pl g2 fun a _ z _ => z).grow (F' := fun a => H a = none) x2.pl g3 fun a _ z _ => z
  unfold slD at q
  split at q
  · obtain ⟨p1, vs, f, rfl, e1, r1, n1, k1⟩ := ef.1 _ rfl
    obtain ⟨f', a, b, c⟩ := cut_rep lv hv r1
    have q : Post _ _ _ _ _ _ _ _ _ _ _ _ _ := q
    refine .inr ⟨p1, vs, rfl, SqT.of e1, fun z => ?_, fun z p hp => ?_⟩
    · refine q.fin g x3 Ex.rfl' (fp := f) ?_ n1 k1
      rw [Rep]
      refine ⟨p1, vs, rfl, e1, ?_⟩
      have : cut ‹List D› lv hv = ‹List D› := by
        have l1 := r1.length
        unfold cut
        rw [l1, show six vs.length 0 lv = 0 from z.1, show six vs.length vs.length hv = vs.length from z.2, List.drop_zero, Nat.sub_zero, ← l1, List.take_length]
      rw [this]
      exact r1
    · exact q.fin g x3 (ex_upd hp) (tup_new a x3.pl hp) (c n1) fun y hy => k1 y (b y hy)
  · obtain ⟨p1, vs, f, rfl, e1, _, r1, n1, k1⟩ := ef.2 _ _ rfl
    obtain ⟨f', a, b, c⟩ := cut_rep lv hv r1
    have q : Post _ _ _ _ _ _ _ _ _ _ _ _ _ := q
    refine .inl ⟨p1, vs, rfl, SqL.of e1, fun p hp => ?_⟩
    refine q.fin g x3 (ex_upd hp) (lst_new a x3.pl hp x3.gs) (fp_new a hp (c n1)) fun y hy => ?_
    rcases List.mem_cons.mp hy with rfl | hy
    · exact grow_none g x3.pl hp
    · exact k1 y (b y hy)
  · exact q.elim
/-! ### fields -/
theorem se_top (g : Gd C Γ Gs k X) {m : ME} {e : Expr} (ha : SE C Γ k X .v m e) (hb : attributeBase e "top" X.env (eval e X.env) = eval e X.env) : SE C Γ k X p (.top m) (.Attribute e "top" pos) := by
  obtain ⟨t, a1, a2⟩ := ha
  refine ⟨_, pe_fld a1 hb, fun p0 H0 G0 H G s env σ Q x h => ?_⟩
  rw [ev] at h
  refine a2 p0 H0 G0 H G s env σ _ x (W_mono (W_bind.mp h) fun d s1 q H1 G1 v fp g1 x1 r1 _ => ?_)
  unfold numD at q
  split at q
  · obtain ⟨p1, rfl, dx, fs, e1, e2⟩ := rat_of r1
    exact ⟨p1, C, dx, fs, _, rfl, e1, g.wd.cls, g.wd.ntop, e2.1, Post.flat (show Post _ _ _ _ _ _ _ _ _ _ _ _ _ from q) g1 x1 int_rep⟩
  · exact q.elim
theorem se_bot (g : Gd C Γ Gs k X) {m : ME} {e : Expr} (ha : SE C Γ k X .v m e) (hb : attributeBase e "bottom" X.env (eval e X.env) = eval e X.env) : SE C Γ k X p (.bot m) (.Attribute e "bottom" pos) := by
  obtain ⟨t, a1, a2⟩ := ha
  refine ⟨_, pe_fld a1 hb, fun p0 H0 G0 H G s env σ Q x h => ?_⟩
  rw [ev] at h
  refine a2 p0 H0 G0 H G s env σ _ x (W_mono (W_bind.mp h) fun d s1 q H1 G1 v fp g1 x1 r1 _ => ?_)
  unfold denD at q
  split at q
  · obtain ⟨p1, rfl, dx, fs, e1, e2⟩ := rat_of r1
    exact ⟨p1, C, dx, fs, _, rfl, e1, g.wd.cls, g.wd.nbot, e2.2, Post.flat (show Post _ _ _ _ _ _ _ _ _ _ _ _ _ from q) g1 x1 int_rep⟩
  · exact q.elim
/-! ### argument lists, displays -/
theorem sa_nil {st : Bool} {m : En → M (List D)} (hm : ∀ env, m env = pure []) : SA C k X st m [] := ⟨_, pa_nil, fun p0 H0 G0 H G s env σ Q x h => by
  rw [hm] at h
  exact (show PostL _ _ _ _ _ _ _ _ _ _ _ _ _ from h) H G [] [] Grow.rfl' x Reps.nil fun _ => ⟨.nil, by simp⟩⟩
theorem sa_cons {st : Bool} {pa : Md} {m1 : ME} {m2 : En → M (List D)} {e : Expr} {es : List Expr} (ha : SE C Γ k X pa m1 e) (hb : SA C k X st m2 es) (hst : st = true → strict pa m1 = true) (hs : starEach (e :: es) X.env = (false, eval e X.env) :: starEach es X.env) :
    SA C k X st (fun env => do let d ← ev (callF Γ k) env pa m1; let ds ← m2 env; pure (d :: ds)) (e :: es) := by
  obtain ⟨t, a1, a2⟩ := ha
  obtain ⟨u, b1, b2⟩ := hb
  refine ⟨_, pa_cons a1 b1 hs, fun p0 H0 G0 H G s env σ Q x h => ?_⟩
  refine a2 p0 H0 G0 H G s env σ _ x (W_mono (W_bind.mp h) fun d s1 q H1 G1 v fp g1 x1 r1 z1 => ?_)
  refine b2 p0 H0 G0 H1 G1 s1 env σ _ x1 (W_mono (W_bind.mp q) fun ds s2 q H2 G2 vs fq g2 x2 r2 z2 => ?_)
  refine (show PostL _ _ _ _ _ _ _ _ _ _ _ _ _ from q) H2 G2 (v :: vs) (fp ++ fq) (g1.trans g2) x2 (Reps.cons (r1.grow x1.pl g2) r2) fun z => ?_
  obtain ⟨n1, f1⟩ := z1 (hst z)
  obtain ⟨n2, f2⟩ := z2 z
  refine ⟨nodup_app.mpr ⟨n1, n2, fun a h1 h2 => ?_⟩, fun a ha => ?_⟩
  · obtain ⟨_, _, xs, e⟩ := r1.mem a h1
    rw [f2 a h2] at e
    cases e
  · exact (List.mem_append.mp ha).elim (f1 a) fun h => grow_none g1 x1.pl (f2 a h)
/-- .. of operands whose items may be handed on -/
def PostLB (C : Addr) (X : Cx) (p0 : Option Addr) (H0 : Hp) (G0 : GS) (H : Hp) (G : GS) (env : En) (σ : L2.St) (Q : List V → Hp → Prop) (ds : List D) (s' : Strm) : Prop :=
  ∀ H' G' vs fp, Grow p0 H G H' G' → StX X.K C p0 H0 G0 H' G' s' env σ → Reps X.K C p0 H' G' ds vs fp → (∀ (j : Nat) d v, ds[j]? = some d → vs[j]? = some v → EF X.K C p0 (fun a => H a = none) H' G' d v) → Q vs H'
def SAB (C : Addr) (k : Nat) (X : Cx) (m : En → M (List D)) (es : List Expr) : Prop := ∃ t, PA X es t ∧ ∀ (p0 : Option Addr) (H0 : Hp) (G0 : GS) (H : Hp) (G : GS) (s : Strm) (env : En) (σ : L2.St) (Q : List V → Hp → Prop), StX X.K C p0 H0 G0 H G s env σ →
  W (m env) s (PostLB C X p0 H0 G0 H G env σ Q) → t σ H Q
theorem sab_nil {m : En → M (List D)} (hm : ∀ env, m env = pure []) : SAB C k X m [] := ⟨_, pa_nil, fun p0 H0 G0 H G s env σ Q x h => by
  rw [hm] at h
  exact (show PostLB _ _ _ _ _ _ _ _ _ _ _ _ from h) H G [] [] Grow.rfl' x Reps.nil fun j d v h => by simp at h⟩
theorem sab_cons {m1 : ME} {m2 : En → M (List D)} {e : Expr} {es : List Expr} (ha : SE C Γ k X .p m1 e) (hb : SAB C k X m2 es) (hs : starEach (e :: es) X.env = (false, eval e X.env) :: starEach es X.env) :
    SAB C k X (fun env => do let d ← bw m1 (ev (callF Γ k) env .p m1); let ds ← m2 env; pure (d :: ds)) (e :: es) := by
  obtain ⟨t, a1, a2⟩ := ha.b
  obtain ⟨u, b1, b2⟩ := hb
  refine ⟨_, pa_cons a1 b1 hs, fun p0 H0 G0 H G s env σ Q x h => ?_⟩
  refine a2 p0 H0 G0 H G s env σ _ x (W_mono (W_bind.mp h) fun d s1 q H1 G1 v fp g1 x1 r1 z1 => ?_)
  refine b2 p0 H0 G0 H1 G1 s1 env σ _ x1 (W_mono (W_bind.mp q) fun ds s2 q H2 G2 vs fq g2 x2 r2 z2 => ?_)
  refine (show PostLB _ _ _ _ _ _ _ _ _ _ _ _ from q) H2 G2 (v :: vs) (fp ++ fq) (g1.trans g2) x2 (Reps.cons (r1.grow x1.pl g2) r2) fun j d' v' h1 h2 => ?_
  cases j with
  | zero =>
    cases (show some d = some d' from h1)
    cases (show some v = some v' from h2)
    exact z1.grow x1.pl g2 fun a _ z _ => z
  | succ j => exact (z2 j d' v' (by simpa using h1) (by simpa using h2)).grow (F' := fun a => H a = none) x2.pl Grow.rfl' fun a _ z _ => grow_none g1 x1.pl z
theorem evs_len : ∀ (m : MEs) {env : En} {s : Strm} {R : List D → Strm → Prop}, W (evs (callF Γ k) env m) s R → W (evs (callF Γ k) env m) s fun ds s' => ds.length = m.len ∧ R ds s'
  | .nil, env, s, R, h => by
    rw [evs] at h ⊢
    exact ⟨rfl, h⟩
  | .cons a as, env, s, R, h => by
    rw [evs] at h ⊢
    refine W_bind.mpr (W_mono (W_bind.mp h) fun d s1 q => W_bind.mpr (W_mono (evs_len as (W_bind.mp q)) fun ds s2 q => ?_))
    exact ⟨by show (d :: ds).length = as.len + 1; rw [List.length_cons, q.1], q.2⟩
theorem se_tup {m : MEs} {es : List Expr} {x1 : Nat} (ha : SA C k X true (fun env => evs (callF Γ k) env m) es) (hl : m.len ≤ LIM) : SE C Γ k X p (.tup m) (.Tuple es x1 pos) := by
  obtain ⟨t, a1, a2⟩ := ha
  refine ⟨_, pe_tup a1, fun p0 H0 G0 H G s env σ Q x h => ?_⟩
  rw [ev] at h
  refine a2 p0 H0 G0 H G s env σ _ x (W_mono (evs_len m (W_bind.mp h)) fun ds s1 q H1 G1 vs fp g1 x1 r1 z1 => ?_)
  obtain ⟨n, f⟩ := z1 rfl
  refine ⟨by rw [← r1.length, q.1]; exact lim_size hl, fun p hp => ?_⟩
  exact (show Post _ _ _ _ _ _ _ _ _ _ _ _ _ from q.2).fin g1 x1 (ex_upd hp) (tup_new r1 x1.pl hp) n f
theorem se_lst {m : MEs} {es : List Expr} (ha : SA C k X true (fun env => evs (callF Γ k) env m) es) (hl : m.len ≤ LIM) : SE C Γ k X p (.lst m) (.List es pos) := by
  obtain ⟨t, a1, a2⟩ := ha
  refine ⟨_, pe_lst a1, fun p0 H0 G0 H G s env σ Q x h => ?_⟩
  rw [ev] at h
  refine a2 p0 H0 G0 H G s env σ _ x (W_mono (evs_len m (W_bind.mp h)) fun ds s1 q H1 G1 vs fp g1 x1 r1 z1 => ?_)
  obtain ⟨n, f⟩ := z1 rfl
  refine ⟨by rw [← r1.length, q.1]; exact lim_size hl, fun p hp => ?_⟩
  refine (show Post _ _ _ _ _ _ _ _ _ _ _ _ _ from q.2).fin g1 x1 (ex_upd hp) (lst_new r1 x1.pl hp x1.gs) (fp_new r1 hp n) fun a ha => ?_
  rcases List.mem_cons.mp ha with rfl | ha
  · exact grow_none g1 x1.pl hp
  · exact f a ha
/-! ### calls of the text's defs -/
mutual
/-- what may be said of a value behind a call: H was the heap at the call, Gc what the def held frozen, G what the caller does -/
theorem Rep.back {K : PySem.W.Frag} {Gc Ge : GS} {sh : Bool} (hn : ∀ p o, some p ≠ p0 → Ge p → H p = some o → Gc p) (gs : ∀ p, G p → ∃ o, H p = some o) (hs : sh = false → ∀ p, Gc p → G p) :
    ∀ {d : D} {v : V} {f : List Addr}, Rep K C p0 H' Ge d v f → (∀ a ∈ f, H a = none) → (sh = true → d.noShr = true) → Rep K C p0 H' (fun a => G a ∨ (H a = none ∧ Ge a)) d v f
  | .non, _, _, r, _, _ => by unfold Rep at r ⊢; exact r
  | .bl _, _, _, r, _, _ => by unfold Rep at r ⊢; exact r
  | .int _, _, _, r, _, _ => by unfold Rep at r ⊢; exact r
  | .str _, _, _, r, _, _ => by unfold Rep at r ⊢; exact r
  | .rat q, _, _, r, _, _ => by unfold Rep at r ⊢; exact r
  | .tup ds, _, _, r, m, n => by
    unfold Rep at r ⊢
    obtain ⟨p, vs, e, q1, q2⟩ := r
    exact ⟨p, vs, e, q1, Reps.back hn gs hs q2 m n⟩
  | .lst o ds, _, _, r, m, n => by
    unfold Rep at r ⊢
    obtain ⟨p, vs, f, e, q1, np, q2, q3⟩ := r
    have n' : sh = true → (o && D.noShrs ds) = true := n
    rcases q3 with ⟨a, b, c⟩ | ⟨a, b, c⟩
    · rw [c] at m
      refine ⟨p, vs, f, e, q1, np, Reps.back hn gs hs q2 (fun x hx => m x (List.mem_cons_of_mem _ hx)) fun z => (Bool.and_eq_true_iff.mp (n' z)).2, .inl ⟨a, fun z => ?_, c⟩⟩
      rcases z with z | z
      · obtain ⟨o', z⟩ := gs p z
        rw [m p List.mem_cons_self] at z
        cases z
      · exact b z.2
    · refine ⟨p, vs, f, e, q1, np, Reps.back hn gs hs q2 (by rw [c.1]; simp) fun z => (Bool.and_eq_true_iff.mp (n' z)).2, .inr ⟨a, ?_, c⟩⟩
      cases q : H p with
      | none => exact .inr ⟨rfl, b⟩
      | some o' =>
        refine .inl (hs ?_ p (hn p o' np b q))
        cases sh with
        | false => rfl
        | true =>
          have z := (Bool.and_eq_true_iff.mp (n' rfl)).1
          rw [a] at z
          cases z
  | .strm, _, _, r, _, _ => by unfold Rep at r ⊢; exact r
  | .scr ns, _, _, r, _, _ => by unfold Rep at r ⊢; exact r
theorem Reps.back {K : PySem.W.Frag} {Gc Ge : GS} {sh : Bool} (hn : ∀ p o, some p ≠ p0 → Ge p → H p = some o → Gc p) (gs : ∀ p, G p → ∃ o, H p = some o) (hs : sh = false → ∀ p, Gc p → G p) :
    ∀ {ds : List D} {vs : List V} {f : List Addr}, Reps K C p0 H' Ge ds vs f → (∀ a ∈ f, H a = none) → (sh = true → D.noShrs ds = true) → Reps K C p0 H' (fun a => G a ∨ (H a = none ∧ Ge a)) ds vs f
  | [], _, _, r, _, _ => by unfold Reps at r ⊢; exact r
  | d :: ds, _, _, r, m, n => by
    unfold Reps at r ⊢
    obtain ⟨v, r', f, g', e1, e2, a, b⟩ := r
    rw [e2] at m
    have n' : sh = true → (d.noShr && D.noShrs ds) = true := n
    exact ⟨v, r', f, g', e1, e2, Rep.back hn gs hs a (fun x hx => m x (List.mem_append_left _ hx)) fun z => (Bool.and_eq_true_iff.mp (n' z)).1, Reps.back hn gs hs b (fun x hx => m x (List.mem_append_right _ hx)) fun z => (Bool.and_eq_true_iff.mp (n' z)).2⟩
end
theorem strips_len : ∀ ds : List D, (D.strips ds).length = ds.length
  | [] => by unfold D.strips; rfl
  | d :: ds => by unfold D.strips; rw [List.length_cons, List.length_cons, strips_len ds]
theorem callF_md {f : String} {ds : List D} {R : D → Strm → Prop} (h : W (callF Γ k f ds) s R) : ∃ md, Γ f = some md ∧ ds.length = md.np := by
  cases k with
  | zero => exact h.elim
  | succ k =>
    unfold callF at h
    cases e : Γ f with
    | none => rw [e] at h; exact h.elim
    | some md =>
      rw [e] at h
      exact ⟨md, rfl, (W_guard.mp (W_bind.mp h)).1⟩
/-- the state behind a call -/
theorem StX.call {Gc Ge : GS} {s' : Strm} (x : StX X.K C p0 H0 G0 H1 G1 s env σ) (g : Grow p0 H1 Gc H' Ge) (st : StAt p0 H' Ge s') (gs : ∀ p, Ge p → some p ≠ p0 ∧ ∃ o, H' p = some o) :
    Grow p0 H1 G1 H' (fun a => G1 a ∨ (H1 a = none ∧ Ge a)) ∧ StX X.K C p0 H0 G0 H' (fun a => G1 a ∨ (H1 a = none ∧ Ge a)) s' env σ := by
  have gr : Grow p0 H1 G1 H' (fun a => G1 a ∨ (H1 a = none ∧ Ge a)) := ⟨g.keep, fun p h => .inl h, fun p o _ h e => h.elim id fun z => absurd (z.1.symm.trans e) (by simp), g.hd⟩
  refine ⟨gr, ⟨x.grow.trans gr, fun p hp => ?_, fun p hp => ?_, ?_⟩⟩
  · obtain ⟨pc, a1, a2, a3, a4, a5⟩ := x.strm p hp
    obtain ⟨pc', b1, b2, b3, b4, b5⟩ := st p hp
    obtain ⟨ys, c⟩ := g.hd p _ _ hp a1
    have c' := b1.symm.trans c
    injection c' with c'
    injection c' with c'
    injection c' with c1 c2
    injection c1 with c1
    subst c1
    exact ⟨pc', b1, b2, b3, .inl a4, b5⟩
  · rcases hp with hp | hp
    · obtain ⟨a, o, b⟩ := x.gs p hp
      exact ⟨a, o, g.keep _ _ a b⟩
    · exact gs p hp.2
  · obtain ⟨fp, a, b, c⟩ := x.env
    exact ⟨fp, a.grow x.pl gr, b, c⟩
theorem evas_strips {m : MEs} : True := trivial
theorem call_sem {f : String} {md : MDef} (hf : Γ f = some md) {ds : List D} {vs : List V} {s1 : Strm} {fq : List Addr} (x1 : StX X.K C p0 H0 G0 H1 G1 s1 env σ) (g1 : Grow p0 H G H1 G1) (r1 : Reps X.K C p0 H1 G1 ds vs fq)
    (h : W (callF Γ k f (D.strips ds)) s1 fun d s' => W (do guardM (d.noShr = true ∨ D.noOwns ds = true); pure d : M D) s' (Post C X p0 st H0 G0 H G env σ Q)) : spEv X.K C Γ k f md.np vs H1 Q E0 := by
  obtain ⟨md', e1, e2⟩ := callF_md h
  rw [hf] at e1
  cases e1
  rw [strips_len] at e2
  have lend := Reps.lend (G1 := fun a => G1 a ∨ a ∈ fq) (fun _ z => .inl z) r1 fun a ha => .inr ha
  refine ⟨by rw [← r1.length]; exact e2, p0, s1, fun a => G1 a ∨ a ∈ fq, D.strips ds, fun p hp => ?_, fun p hp => ?_, lend, W_mono h fun d s' q H' Ge v fp g st gs rd n fr => ?_⟩
  · obtain ⟨pc, a1, a2, a3, a4, a5⟩ := x1.strm p hp
    exact ⟨pc, a1, a2, a3, .inl a4, a5⟩
  · rcases hp with hp | hp
    · exact x1.gs p hp
    · obtain ⟨_, a, xs, b⟩ := r1.mem p hp
      exact ⟨a, _, b⟩
  · obtain ⟨c, q⟩ := W_guard.mp (W_bind.mp q)
    obtain ⟨gr, x2⟩ := x1.call g st gs
    have rd' : Rep X.K C p0 H' (fun a => G1 a ∨ (H1 a = none ∧ Ge a)) d v fp := by
      refine Rep.back (sh := d.noShr) (Gc := fun a => G1 a ∨ a ∈ fq) (fun p o a b e => g.new p o a b e) (fun p z => (x1.gs p z).2) (fun z p hp => ?_) rd fr fun z => z
      rcases c with c | c
      · rw [c] at z; cases z
      · rcases hp with hp | hp
        · exact hp
        · rw [r1.noOwn c] at hp
          exact absurd hp (by simp)
    exact (show Post _ _ _ _ _ _ _ _ _ _ _ _ _ from q) H' _ v fp (g1.trans gr) x2 rd' fun _ => ⟨n, fun a ha => grow_none g1 x1.pl (fr a ha)⟩
theorem se_call (g : Gd C Γ Gs k X) {f : String} {md : MDef} (hf : Γ f = some md) {m : MEs} {e : Expr} {es : List Expr} {p1 : Pos} (ha : SA C k X false (fun env => evas (callF Γ k) env m) (e :: es)) (hg : Gl X (Str.ofString f)) (hd : (Str.ofString f == ("__debug__" : Str)) = false)
    (hs : starEach (e :: es) X.env = (false, eval e X.env) :: starEach es X.env) (hpl : (backTo pos (starEach es X.env)).any (·.1) = false) : SE C Γ k X p (.call f m) (.Call (.Name (Str.ofString f) p1) (e :: es) [] pos) := by
  obtain ⟨t, a1, a2⟩ := ha
  obtain ⟨fa, fd, ps, F, hm, kp, hb⟩ := g.wd.fn f md hf
  refine ⟨_, pe_call F g.room hg hm kp hb .nil pass0 a1 hd hs hpl, fun p0 H0 G0 H G s env σ Q x h => ?_⟩
  rw [ev] at h
  refine a2 p0 H0 G0 H G s env σ _ x (W_mono (W_bind.mp h) fun ds s1 q H1 G1 vs fp g1 x1 r1 _ => ?_)
  show spEv X.K C Γ k f md.np (vs ++ []) H1 Q E0
  rw [List.append_nil]
  exact call_sem hf x1 g1 r1 (W_bind.mp q)
theorem se_call0 (g : Gd C Γ Gs k X) {f : String} {md : MDef} (hf : Γ f = some md) {p1 : Pos} (hg : Gl X (Str.ofString f)) (hd : (Str.ofString f == ("__debug__" : Str)) = false) : SE C Γ k X p (.call f .nil) (.Call (.Name (Str.ofString f) p1) [] [] pos) := by
  obtain ⟨fa, fd, ps, F, hm, kp, hb⟩ := g.wd.fn f md hf
  refine ⟨_, pe_call0 F g.room hg hm kp hb .nil pass0 hd, fun p0 H0 G0 H G s env σ Q x h => ?_⟩
  rw [ev] at h
  exact call_sem hf x Grow.rfl' Reps.nil (W_bind.mp h)
end
end Mp

namespace Mp
open PySem PySem.Spec
open PyProof.Rows L2
def bfName : BF → Str
  | .len => "len" | .abs => "abs" | .int => "int" | .list => "list" | .tuple => "tuple" | .any => "any" | .all => "all" | .sum => "sum" | .max => "max" | .min => "min" | .repr => "repr" | .str => "str"
def rBi (K : PySem.W.Frag) : BF → List V → Hp → VK → Prop
  | .len => fun xs H Q => ∃ p ys, xs = [.ref p] ∧ (SqL K H p ys ∨ SqT K H p ys) ∧ Q (.int ys.length) H
  | .abs => fun xs H Q => ∃ i, xs = [.int i] ∧ Q (.int (if i < 0 then -i else i)) H
  | .int => fun xs H Q => (∃ i, xs = [.int i] ∧ Q (.int i) H) ∨ ∃ k, xs = [.bl k] ∧ Q (.int (if k then 1 else 0)) H
  | .list => fun xs H Q => ∃ p ys, xs = [.ref p] ∧ (SqL K H p ys ∨ SqT K H p ys) ∧ ∀ l, H l = none → Q (.ref l) (upd H l (.lst ys))
  | .tuple => fun xs H Q => ∃ p ys, xs = [.ref p] ∧ ((SqL K H p ys ∧ ∀ l, H l = none → Q (.ref l) (upd H l (.tup ys))) ∨ (SqT K H p ys ∧ Q (.ref p) H))
  | .any => rAny K
  | .all => rAll K
  | .sum => rSum K
  | .max => fun xs H Q => ∃ i j, xs = [.int i, .int j] ∧ Q (.int (if j > i then j else i)) H
  | .min => fun xs H Q => ∃ i j, xs = [.int i, .int j] ∧ Q (.int (if j < i then j else i)) H
  | _ => fun _ _ _ => False
section
variable {C : Addr} {Γ : String → Option MDef} {Gs : String → Option Int} {k : Nat} {X : Cx} {p0 : Option Addr} {H H1 H2 H' H0 : Hp} {G G1 G2 G' G0 : GS} {s s2 : Strm} {env : En} {σ : L2.St} {Q : VK} {d : D} {v : V} {fp : List Addr} {st : Bool}
variable {p : Md} {pos pos' : Pos} {j : Nat}
theorem bi_pe (g : Gd C Γ Gs k X) (b : BF) {e : Expr} {es : List Expr} {t : TA} {p1 : Pos} (hg : Gl X (bfName b)) (ha : PA X (e :: es) t) (hs : starEach (e :: es) X.env = (false, eval e X.env) :: starEach es X.env) (hpl : (backTo pos (starEach es X.env)).any (·.1) = false) :
    PE X (.Call (.Name (bfName b) p1) (e :: es) [] pos) (tCB (rBi X.K b) t) := by
  cases b with
  | len => exact pe_callB call_len_seq hg (g.wd.free _ (by decide)) (by decide +kernel) ha (by decide) (by decide) hs hpl
  | abs => exact pe_callB call_abs hg (g.wd.free _ (by decide)) (by decide +kernel) ha (by decide) (by decide) hs hpl
  | int => exact pe_callTy call_int1 hg (g.wd.free _ (by decide)) (by decide +kernel) ha (by decide) (by decide) hs hpl
  | list => exact pe_callTy call_list_of hg (g.wd.free _ (by decide)) (by decide +kernel) ha (by decide) (by decide) hs hpl
  | tuple => exact pe_callTy call_tuple_of hg (g.wd.free _ (by decide)) (by decide +kernel) ha (by decide) (by decide) hs hpl
  | any => exact pe_callB (cr_any g.calm) hg (g.wd.free _ (by decide)) (by decide +kernel) ha (by decide) (by decide) hs hpl
  | all => exact pe_callB (cr_all g.calm) hg (g.wd.free _ (by decide)) (by decide +kernel) ha (by decide) (by decide) hs hpl
  | sum => exact pe_callB (cr_sum g.calm) hg (g.wd.free _ (by decide)) (by decide +kernel) ha (by decide) (by decide) hs hpl
  | max => exact pe_callB (call_max2 g.calm) hg (g.wd.free _ (by decide)) (by decide +kernel) ha (by decide) (by decide) hs hpl
  | min => exact pe_callB (call_min2 g.calm) hg (g.wd.free _ (by decide)) (by decide +kernel) ha (by decide) (by decide) hs hpl
  | repr => exact pe_callB (id := "repr") (fun _ _ _ _ _ _ _ _ _ h => h.elim) hg (g.wd.free _ (by decide)) (by decide +kernel) ha (by decide) (by decide) hs hpl
  | str => exact pe_callTy (T := "str") (fun _ _ _ _ _ _ _ _ _ h => h.elim) hg (g.wd.free _ (by decide)) (by decide +kernel) ha (by decide) (by decide) hs hpl
theorem reps1 {K : PySem.W.Frag} {d : D} {vs : List V} (r : Reps K C p0 H G [d] vs fp) : ∃ v f, vs = [v] ∧ Rep K C p0 H G d v f := by
  obtain ⟨v, r', f, g, rfl, _, a, b⟩ := Reps.cons_iff.mp r
  obtain ⟨rfl, _⟩ := Reps.nil_iff.mp b
  exact ⟨v, f, rfl, a⟩
theorem reps1' {K : PySem.W.Frag} {d : D} {vs : List V} (r : Reps K C p0 H G [d] vs fp) : ∃ v, vs = [v] ∧ Rep K C p0 H G d v fp := by
  obtain ⟨v, r', f, g, rfl, rfl, a, b⟩ := Reps.cons_iff.mp r
  obtain ⟨rfl, rfl⟩ := Reps.nil_iff.mp b
  exact ⟨v, rfl, by rw [List.append_nil]; exact a⟩
theorem reps2 {K : PySem.W.Frag} {d e : D} {vs : List V} (r : Reps K C p0 H G [d, e] vs fp) : ∃ v w f g, vs = [v, w] ∧ Rep K C p0 H G d v f ∧ Rep K C p0 H G e w g := by
  obtain ⟨v, r', f, g, rfl, _, a, b⟩ := Reps.cons_iff.mp r
  obtain ⟨w, f', rfl, b'⟩ := reps1 b
  exact ⟨v, w, f, f', rfl, a, b'⟩
theorem reps_bools {K : PySem.W.Frag} : ∀ {ds : List D} {vs : List V} {f : List Addr} {bs : List Bool}, Reps K C p0 H G ds vs f → bools ds = some bs → vs = bs.map V.bl
  | [], _, _, _, r, e => by
    obtain ⟨rfl, _⟩ := Reps.nil_iff.mp r
    cases (show some [] = some _ from e)
    rfl
  | d :: ds, _, _, bs, r, e => by
    obtain ⟨v, r', f, g, rfl, _, a, b⟩ := Reps.cons_iff.mp r
    cases d with
    | bl c =>
      have e : (bools ds).map (c :: ·) = some bs := e
      cases q : bools ds with
      | none => rw [q] at e; cases e
      | some bs' =>
        rw [q] at e
        cases e
        rw [bl_of a, reps_bools b q] <;> rfl
    | _ => cases e
theorem reps_ints {K : PySem.W.Frag} : ∀ {ds : List D} {vs : List V} {f : List Addr} {bs : List Int}, Reps K C p0 H G ds vs f → intsD ds = some bs → vs = bs.map V.int
  | [], _, _, _, r, e => by
    obtain ⟨rfl, _⟩ := Reps.nil_iff.mp r
    cases (show some [] = some _ from e)
    rfl
  | d :: ds, _, _, bs, r, e => by
    obtain ⟨v, r', f, g, rfl, _, a, b⟩ := Reps.cons_iff.mp r
    cases d with
    | int c =>
      have e : (intsD ds).map (c :: ·) = some bs := e
      cases q : intsD ds with
      | none => rw [q] at e; cases e
      | some bs' =>
        rw [q] at e
        cases e
        rw [int_of a, reps_ints b q] <;> rfl
    | _ => cases e
theorem Scr.sq {K : PySem.W.Frag} {a : Addr} {ns : List Int} (h : Scr K H a ns) : SqL K H a (ns.map V.int) := h.elim (fun ⟨o, h⟩ => .inl (.inr ⟨o, h⟩)) .inr
theorem reps_of_ints {K : PySem.W.Frag} : ∀ (ns : List Int), Reps K C p0 H G (ns.map D.int) (ns.map V.int) []
  | [] => Reps.nil
  | n :: ns => (Reps.cons int_rep (reps_of_ints ns) : Reps K C p0 H G _ _ ([] ++ []))
theorem se_bi (g : Gd C Γ Gs k X) {b : BF} {m : MEs} {e : Expr} {es : List Expr} {p1 : Pos} (ha : SAB C k X (fun env => evbs (callF Γ k) env m) (e :: es)) (hg : Gl X (bfName b)) (hs : starEach (e :: es) X.env = (false, eval e X.env) :: starEach es X.env) (hpl : (backTo pos (starEach es X.env)).any (·.1) = false) :
    SE C Γ k X p (.bi b m) (.Call (.Name (bfName b) p1) (e :: es) [] pos) := by
  obtain ⟨t, a1, a2⟩ := ha
  refine ⟨_, bi_pe g b hg a1 hs hpl, fun p0 H0 G0 H G s env σ Q x h => ?_⟩
  rw [ev] at h
  refine a2 p0 H0 G0 H G s env σ _ x (W_mono (W_bind.mp h) fun ds s1 q H1 G1 vs fp g1 x1 r1 ef => ?_)
  unfold biD at q
  split at q
  · obtain ⟨v, f, rfl, r3⟩ := reps1 r1
    obtain ⟨p1, ws, f', rfl, e1, _, r2, _⟩ := lst_of r3
    exact ⟨p1, ws, rfl, .inl (SqL.of e1), by rw [← r2.length]; exact Post.flat (show Post _ _ _ _ _ _ _ _ _ _ _ _ _ from q) g1 x1 int_rep⟩
  · obtain ⟨v, f, rfl, r3⟩ := reps1 r1
    obtain ⟨p1, ws, rfl, e1, r2⟩ := tup_of r3
    exact ⟨p1, ws, rfl, .inr (SqT.of e1), by rw [← r2.length]; exact Post.flat (show Post _ _ _ _ _ _ _ _ _ _ _ _ _ from q) g1 x1 int_rep⟩
  · obtain ⟨v, f, rfl, r3⟩ := reps1 r1
    rw [int_of r3]
    exact ⟨_, rfl, Post.flat (show Post _ _ _ _ _ _ _ _ _ _ _ _ _ from q) g1 x1 int_rep⟩
  · obtain ⟨v, f, rfl, r3⟩ := reps1 r1
    rw [int_of r3]
    exact .inl ⟨_, rfl, Post.flat (show Post _ _ _ _ _ _ _ _ _ _ _ _ _ from q) g1 x1 int_rep⟩
  · obtain ⟨v, f, rfl, r3⟩ := reps1 r1
    rw [bl_of r3]
    exact .inr ⟨_, rfl, Post.flat (show Post _ _ _ _ _ _ _ _ _ _ _ _ _ from q) g1 x1 int_rep⟩
  · obtain ⟨v, f, rfl, r3⟩ := reps1 r1
    rw [Rep] at r3
    obtain ⟨⟨p1, rfl, sc⟩, _⟩ := r3
    refine ⟨p1, _, rfl, .inl sc.sq, fun l hl => ?_⟩
    refine (show Post _ _ _ _ _ _ _ _ _ _ _ _ _ from q).fin g1 x1 (ex_upd hl) (lst_new (reps_of_ints _) x1.pl hl x1.gs) (by simp) fun y hy => ?_
    have : y = l := by simpa using hy
    subst this
    exact grow_none g1 x1.pl hl
  · obtain ⟨v, f, rfl, r3⟩ := reps1 r1
    obtain ⟨p1, ws, f', rfl, e1, _, r2, n2, k2⟩ := (ef 0 _ v rfl rfl).2 _ _ rfl
    refine ⟨p1, ws, rfl, .inl (SqL.of e1), fun l hl => ?_⟩
    refine (show Post _ _ _ _ _ _ _ _ _ _ _ _ _ from q).fin g1 x1 (ex_upd hl) (lst_new r2 x1.pl hl x1.gs) (fp_new r2 hl n2) fun y hy => ?_
    rcases List.mem_cons.mp hy with rfl | hy
    · exact grow_none g1 x1.pl hl
    · exact k2 y hy
  · obtain ⟨v, f, rfl, r3⟩ := reps1 r1
    obtain ⟨p1, ws, f', rfl, e1, r2, n2, k2⟩ := (ef 0 _ v rfl rfl).1 _ rfl
    refine ⟨p1, ws, rfl, .inr (SqT.of e1), fun l hl => ?_⟩
    refine (show Post _ _ _ _ _ _ _ _ _ _ _ _ _ from q).fin g1 x1 (ex_upd hl) (lst_new r2 x1.pl hl x1.gs) (fp_new r2 hl n2) fun y hy => ?_
    rcases List.mem_cons.mp hy with rfl | hy
    · exact grow_none g1 x1.pl hl
    · exact k2 y hy
  · obtain ⟨v, f, rfl, r3⟩ := reps1 r1
    obtain ⟨p1, ws, f', rfl, e1, _, r2, n2, k2⟩ := (ef 0 _ v rfl rfl).2 _ _ rfl
    exact ⟨p1, ws, rfl, .inl ⟨SqL.of e1, fun l hl => (show Post _ _ _ _ _ _ _ _ _ _ _ _ _ from q).fin g1 x1 (ex_upd hl) (tup_new r2 x1.pl hl) n2 k2⟩⟩
  · obtain ⟨v, f, rfl, r3⟩ := reps1 r1
    obtain ⟨p1, ws, f', rfl, e1, r2, n2, k2⟩ := (ef 0 _ v rfl rfl).1 _ rfl
    refine ⟨p1, ws, rfl, .inr ⟨SqT.of e1, (show Post _ _ _ _ _ _ _ _ _ _ _ _ _ from q).fin g1 x1 Ex.rfl' (fp := f') ?_ n2 k2⟩⟩
    rw [Rep]
    exact ⟨p1, ws, rfl, e1, r2⟩
  · obtain ⟨v, f, rfl, r3⟩ := reps1 r1
    obtain ⟨p1, ws, f', rfl, e1, _, r2, _⟩ := lst_of r3
    obtain ⟨bs, eb, q⟩ := W_ofO.mp (W_bind.mp q)
    have := reps_bools r2 eb
    subst this
    exact ⟨p1, bs, rfl, SqL.of e1, Post.flat (show Post _ _ _ _ _ _ _ _ _ _ _ _ _ from q) g1 x1 bl_rep⟩
  · obtain ⟨v, f, rfl, r3⟩ := reps1 r1
    obtain ⟨p1, ws, f', rfl, e1, _, r2, _⟩ := lst_of r3
    obtain ⟨bs, eb, q⟩ := W_ofO.mp (W_bind.mp q)
    have := reps_bools r2 eb
    subst this
    exact ⟨p1, bs, rfl, SqL.of e1, Post.flat (show Post _ _ _ _ _ _ _ _ _ _ _ _ _ from q) g1 x1 bl_rep⟩
  · obtain ⟨v, f, rfl, r3⟩ := reps1 r1
    obtain ⟨p1, ws, f', rfl, e1, _, r2, _⟩ := lst_of r3
    obtain ⟨bs, eb, q⟩ := W_ofO.mp (W_bind.mp q)
    have := reps_ints r2 eb
    subst this
    exact ⟨p1, bs, rfl, SqL.of e1, Post.flat (show Post _ _ _ _ _ _ _ _ _ _ _ _ _ from q) g1 x1 int_rep⟩
  · obtain ⟨v, w, f, f', rfl, r3, r4⟩ := reps2 r1
    rw [int_of r3, int_of r4]
    exact ⟨_, _, rfl, Post.flat (show Post _ _ _ _ _ _ _ _ _ _ _ _ _ from q) g1 x1 int_rep⟩
  · obtain ⟨v, w, f, f', rfl, r3, r4⟩ := reps2 r1
    rw [int_of r3, int_of r4]
    exact ⟨_, _, rfl, Post.flat (show Post _ _ _ _ _ _ _ _ _ _ _ _ _ from q) g1 x1 int_rep⟩
  · exact q.elim
/-! ### Ratio(..) -/
theorem se_mk (g : Gd C Γ Gs k X) {m : MEs} {e : Expr} {es : List Expr} {p1 : Pos} (ha : SA C k X true (fun env => evs (callF Γ k) env m) (e :: es)) (hg : Gl X "Ratio") (hs : starEach (e :: es) X.env = (false, eval e X.env) :: starEach es X.env) (hpl : (backTo pos (starEach es X.env)).any (·.1) = false) :
    SE C Γ k X p (.mk m) (.Call (.Name "Ratio" p1) (e :: es) [] pos) := by
  obtain ⟨t, a1, a2⟩ := ha
  refine ⟨_, g.wd.mkR X g.isX g.r e es t p1 pos a1 hg hs hpl, fun p0 H0 G0 H G s env σ Q x h => ?_⟩
  rw [ev] at h
  refine a2 p0 H0 G0 H G s env σ _ x (W_mono (W_bind.mp h) fun ds s1 q H1 G1 vs fp g1 x1 r1 _ => ?_)
  unfold mkD at q
  split at q
  · obtain ⟨v, f, rfl, r3⟩ := reps1 r1
    rw [int_of r3]
    exact ⟨[_], _, .inl ⟨rfl, rfl, fun r H' e hr => (show Post _ _ _ _ _ _ _ _ _ _ _ _ _ from q).fin g1 x1 e (rat_rep hr) .nil (by simp)⟩⟩
  · obtain ⟨v, w, f, f', rfl, r3, r4⟩ := reps2 r1
    rw [int_of r3, int_of r4]
    have q := W_ite.mp q
    rename_i n d0 _
    by_cases hd : d0 = 0
    · rw [if_pos hd] at q; exact q.elim
    · rw [if_neg hd] at q
      obtain ⟨c, q⟩ := W_guard.mp (W_bind.mp q)
      exact ⟨[], _, .inr ⟨_, rfl, hd, c, fun r H' e hr => (show Post _ _ _ _ _ _ _ _ _ _ _ _ _ from q).fin g1 x1 e (rat_rep hr) .nil (by simp)⟩⟩
  · exact q.elim
/-! ### isinstance -/
def tyV' (C : Addr) : Ty → V
  | .ratio => .ref C | .tuple => .ty "tuple" | .list => .ty "list" | .int => .ty "int" | .bool => .ty "bool" | .str => .ty "str"
def tyName : Ty → Str
  | .ratio => "Ratio" | .tuple => "tuple" | .list => "list" | .int => "int" | .bool => "bool" | .str => "str"
theorem ty_pe (g : Gd C Γ Gs k X) (t : Ty) (hg : Gl X (tyName t)) : PE X (.Name (tyName t) pos) (tC (tyV' C t)) := by
  cases t with
  | ratio => exact pe_glob (v := .ref C) hg g.wd.gR rfl
  | tuple => exact pe_bltn (v := .ty "tuple") hg (g.wd.free _ (by decide)) (by decide +kernel) rfl
  | list => exact pe_bltn (v := .ty "list") hg (g.wd.free _ (by decide)) (by decide +kernel) rfl
  | int => exact pe_bltn (v := .ty "int") hg (g.wd.free _ (by decide)) (by decide +kernel) rfl
  | bool => exact pe_bltn (v := .ty "bool") hg (g.wd.free _ (by decide)) (by decide +kernel) rfl
  | str => exact pe_bltn (v := .ty "str") hg (g.wd.free _ (by decide)) (by decide +kernel) rfl
theorem is_sem (g : Gd C Γ Gs k X) (t : Ty) {a : D} {x : V} {f : List Addr} {R : Bool → Strm → Prop} (r : Rep X.K C p0 H G a x f) (h : W (isD a t) s R) : ∃ (ty u : Value) (b : Bool), ClsV (tyV' C t) u ∧ TyX X.K H x ty ∧ PySem.W.kitOne X.K ty u = some b ∧ R b s := by
  have key : ∃ (u : Value), ClsV (tyV' C t) u ∧ ∀ (n : String) (b : Bool), (∀ A, t ≠ .ratio → tyV' C t = .ty A → kitB n A = some b) → (t = .ratio → b = false ∧ n ∈ ["NoneType", "bool", "int", "str", "list", "tuple"]) → PySem.W.kitOne X.K (.type n) u = some b := by
    cases t with
    | ratio =>
      refine ⟨_, .own C, fun n b _ h2 => ?_⟩
      obtain ⟨rfl, hn⟩ := h2 rfl
      exact g.wd.isT n hn
    | _ => exact ⟨_, .ty _, fun n b h1 _ => kit_ty (h1 _ (by simp) rfl)⟩
  obtain ⟨u, hu, hk⟩ := key
  cases a with
  | non =>
    rw [non_of r]
    refine ⟨.type "NoneType", u, false, hu, .base .non, hk _ _ (fun A _ e => ?_) (fun _ => ⟨rfl, by simp⟩), ?_⟩
    · cases t <;> cases e <;> first | (rename_i z _; exact absurd rfl z) | decide +kernel
    · cases t <;> exact h
  | bl b =>
    rw [bl_of r]
    refine ⟨.type "bool", u, (t == .bool || t == .int), hu, .base (.bl b), hk _ _ (fun A _ e => ?_) (fun z => ⟨by subst z; rfl, by simp⟩), ?_⟩
    · cases t <;> cases e <;> first | (rename_i z _; exact absurd rfl z) | decide +kernel
    · cases t <;> exact h
  | int b =>
    rw [int_of r]
    refine ⟨.type "int", u, (t == .int), hu, .base (.int b), hk _ _ (fun A _ e => ?_) (fun z => ⟨by subst z; rfl, by simp⟩), ?_⟩
    · cases t <;> cases e <;> first | (rename_i z _; exact absurd rfl z) | decide +kernel
    · cases t <;> exact h
  | str b =>
    rw [str_of r]
    refine ⟨.type "str", u, (t == .str), hu, .base (.str b), hk _ _ (fun A _ e => ?_) (fun z => ⟨by subst z; rfl, by simp⟩), ?_⟩
    · cases t <;> cases e <;> first | (rename_i z _; exact absurd rfl z) | decide +kernel
    · cases t <;> exact h
  | tup b =>
    obtain ⟨p1, vs, rfl, e1, _⟩ := tup_of r
    refine ⟨.type "tuple", u, (t == .tuple), hu, .base (.tup e1), hk _ _ (fun A _ e => ?_) (fun z => ⟨by subst z; rfl, by simp⟩), ?_⟩
    · cases t <;> cases e <;> first | (rename_i z _; exact absurd rfl z) | decide +kernel
    · cases t <;> exact h
  | lst o b =>
    obtain ⟨p1, vs, f, rfl, e1, _⟩ := lst_of r
    refine ⟨.type "list", u, (t == .list), hu, .base (.lst e1), hk _ _ (fun A _ e => ?_) (fun z => ⟨by subst z; rfl, by simp⟩), ?_⟩
    · cases t <;> cases e <;> first | (rename_i z _; exact absurd rfl z) | decide +kernel
    · cases t <;> exact h
  | rat q =>
    obtain ⟨p1, rfl, dx, fs, e1, _⟩ := rat_of r
    obtain ⟨i1, i2, i3, i4⟩ := g.wd.isO
    have ty : TyX X.K H (.ref p1) (.ref C) := .base (.ins e1 g.wd.cls i1 i2 i3 i4)
    cases t with
    | ratio => exact ⟨.ref C, _, true, .own C, ty, g.wd.isC, h⟩
    | tuple => exact ⟨.ref C, _, false, .ty _, ty, g.wd.isB _ (by simp), h⟩
    | list => exact ⟨.ref C, _, false, .ty _, ty, g.wd.isB _ (by simp), h⟩
    | int => exact ⟨.ref C, _, false, .ty _, ty, g.wd.isB _ (by simp), h⟩
    | bool => exact ⟨.ref C, _, false, .ty _, ty, g.wd.isB _ (by simp), h⟩
    | str => exact ⟨.ref C, _, false, .ty _, ty, g.wd.isB _ (by simp), h⟩
  | strm => exact h.elim
  | scr ns => exact h.elim
theorem se_isi (g : Gd C Γ Gs k X) {m : ME} {t : Ty} {e : Expr} {p1 p2 : Pos} (ha : SE C Γ k X .p m e) (hg : Gl X "isinstance") (hg2 : Gl X (tyName t)) (hs : starEach (e :: [.Name (tyName t) p2]) X.env = (false, eval e X.env) :: starEach [.Name (tyName t) p2] X.env)
    (hpl : (backTo pos (starEach [.Name (tyName t) p2] X.env)).any (·.1) = false) : SE C Γ k X p (.isi m t) (.Call (.Name "isinstance" p1) [e, .Name (tyName t) p2] [] pos) := by
  obtain ⟨ta, a1, a2⟩ := ha
  refine ⟨_, pe_callB call_isi hg (g.wd.free _ (by decide)) (by decide +kernel) (pa_cons a1 (pa_cons (ty_pe g t hg2) pa_nil rfl) hs) (by decide) (by decide) hs hpl, fun p0 H0 G0 H G s env σ Q x h => ?_⟩
  rw [ev] at h
  refine a2 p0 H0 G0 H G s env σ _ x (W_mono (W_bind.mp h) fun d s1 q H1 G1 v fp g1 x1 r1 _ => ?_)
  obtain ⟨ty, u, b, h1, h2, h3, h4⟩ := is_sem g t r1 (W_bind.mp q)
  exact ⟨v, _, ty, u, b, rfl, h1, h2, h3, Post.flat (show Post _ _ _ _ _ _ _ _ _ _ _ _ _ from h4) g1 x1 bl_rep⟩
end
end Mp

namespace Mp
open PySem PySem.Spec
open PyProof.Rows L2
section
variable {C : Addr} {Γ : String → Option MDef} {Gs : String → Option Int} {k : Nat} {X : Cx} {p0 : Option Addr} {H H1 H2 H' H0 : Hp} {G G1 G2 G' G0 : GS} {s s2 s' : Strm} {env : En} {σ : L2.St} {Q : VK} {d : D} {v : V} {fp : List Addr} {st : Bool}
variable {p : Md} {pos pos' : Pos} {j : Nat}
/-! ### targets -/
def gNs : List Nat → TGs
  | [] => gNil
  | i :: is => gCons (gName i) (gNs is)
def gT (K : PySem.W.Frag) : Tg → TG
  | .nm i => gName i
  | .tup is => fun v σ H Q => gTup K is.length (gNs is) v σ H Q ∨ gUnl K is.length (gNs is) v σ H Q
/-- the environment beside values that nothing else owns -/
def Beside (K : PySem.W.Frag) (C : Addr) (p0 : Option Addr) (H0 : Hp) (H : Hp) (G : GS) (env : En) (σ : L2.St) (ds : List D) (vs : List V) : Prop := ∃ fp fq, RepE K C p0 H G env σ fp ∧ Reps K C p0 H G ds vs fq ∧ (fp ++ fq).Nodup ∧ ∀ a ∈ fp ++ fq, H0 a = none
theorem StX.beside {ds : List D} {vs : List V} {fq : List Addr} (x : StX X.K C p0 H0 G0 H G s env σ) (g : Grow p0 H G H' G') (r : Reps X.K C p0 H' G' ds vs fq) (n : fq.Nodup) (f : ∀ a ∈ fq, H a = none) : Beside X.K C p0 H0 H' G' env σ ds vs := by
  obtain ⟨fp, a, b, c⟩ := x.env
  refine ⟨fp, fq, a.grow x.pl g, r, nodup_app.mpr ⟨b, n, fun y h1 h2 => ?_⟩, fun y hy => ?_⟩
  · obtain ⟨_, _, xs, e⟩ := a.mem y h1
    rw [f y h2] at e
    cases e
  · rcases List.mem_append.mp hy with h | h
    · exact c y h
    · exact grow_none x.grow x.pl (f y h)
theorem Beside.en {ds : List D} {vs : List V} (b : Beside X.K C p0 H0 H G env σ ds vs) : ∃ fp, RepE X.K C p0 H G env σ fp ∧ fp.Nodup ∧ ∀ a ∈ fp, H0 a = none := by
  obtain ⟨fp, fq, a, _, n, f⟩ := b
  exact ⟨fp, a, (nodup_app.mp n).1, fun y hy => f y (List.mem_append_left _ hy)⟩
theorem StX.envs {env' : En} {σ' : L2.St} (x : StX X.K C p0 H0 G0 H G s env σ) (e : ∃ fp, RepE X.K C p0 H G env' σ' fp ∧ fp.Nodup ∧ ∀ a ∈ fp, H0 a = none) : StX X.K C p0 H0 G0 H G s env' σ' := ⟨x.grow, x.strm, x.gs, e⟩
theorem sets_sem : ∀ (is : List Nat) {ds : List D} {vs : List V} {env : En} {σ : L2.St} {R : En → Strm → Prop} {Q : L2.St → Hp → Prop}, Beside X.K C p0 H0 H G env σ ds vs → W (setsE is ds env) s R →
    (∀ env' σ', R env' s → (∃ fp, RepE X.K C p0 H G env' σ' fp ∧ fp.Nodup ∧ ∀ a ∈ fp, H0 a = none) → Q σ' H) → gNs is vs σ H Q
  | [], [], vs, env, σ, R, Q, b, h, q => by
    obtain ⟨fp, fq, a, r, n, f⟩ := b
    obtain ⟨rfl, rfl⟩ := Reps.nil_iff.mp r
    exact ⟨rfl, q env σ h ⟨fp, a, (nodup_app.mp n).1, fun y hy => f y (List.mem_append_left _ hy)⟩⟩
  | i :: is, d :: ds, vs, env, σ, R, Q, b, h, q => by
    obtain ⟨fp, fq, a, r, n, f⟩ := b
    obtain ⟨v, r', f1, f2, rfl, rfl, r1, r2⟩ := Reps.cons_iff.mp r
    obtain ⟨n1, n2, n3⟩ := nodup_app.mp n
    obtain ⟨n4, n5, n6⟩ := nodup_app.mp n2
    obtain ⟨fr, e1, e2, e3⟩ := a.bind (i := i) n1 r1 n4 fun y h1 h2 => n3 y h2 (List.mem_append_left _ h1)
    refine ⟨v, r', rfl, sets_sem is (env := setE env i d) ⟨fr, f2, e1, r2, nodup_app.mpr ⟨e2, n5, fun y h1 h2 => ?_⟩, fun y hy => ?_⟩ h q⟩
    · rcases e3 y h1 with z | z
      · exact n6 y z h2
      · exact n3 y z (List.mem_append_right _ h2)
    · rcases List.mem_append.mp hy with z | z
      · rcases e3 y z with z | z
        · exact f y (List.mem_append_right _ (List.mem_append_left _ z))
        · exact f y (List.mem_append_left _ z)
      · exact f y (List.mem_append_right _ (List.mem_append_right _ z))
  | [], _ :: _, _, _, _, _, _, _, h, _ => h.elim
  | _ :: _, [], _, _, _, _, _, _, h, _ => h.elim
theorem setsE_len : ∀ (is : List Nat) {ds : List D} {env : En} {R : En → Strm → Prop}, W (setsE is ds env) s R → ds.length = is.length
  | [], [], _, _, _ => rfl
  | _ :: is, _ :: ds, _, _, h => by rw [List.length_cons, List.length_cons, setsE_len is h]
  | [], _ :: _, _, _, h => h.elim
  | _ :: _, [], _, _, h => h.elim
theorem tg_sem (t : Tg) {R : En → Strm → Prop} {Q : L2.St → Hp → Prop} (b : Beside X.K C p0 H0 H G env σ [d] [v]) (h : W (asgT t d env) s R)
    (q : ∀ env' σ', R env' s → (∃ fp, RepE X.K C p0 H G env' σ' fp ∧ fp.Nodup ∧ ∀ a ∈ fp, H0 a = none) → Q σ' H) : gT X.K t v σ H Q := by
  cases t with
  | nm i =>
    have := sets_sem [i] (R := R) (Q := Q) b (show W (setsE [i] [d] env) s R from h) q
    obtain ⟨v', r, e, z⟩ := this
    cases e
    exact z.2
  | tup is =>
    unfold asgT at h
    dsimp only at h
    split at h
    · obtain ⟨fp, fq, a, r, n, f⟩ := b
      obtain ⟨w, e1, r1⟩ := reps1' r
      cases e1
      obtain ⟨p1, vs, rfl, e2, r2⟩ := tup_of r1
      exact .inl ⟨p1, vs, rfl, SqT.of e2, by rw [← r2.length]; exact setsE_len is h, sets_sem is ⟨fp, fq, a, r2, n, f⟩ h q⟩
    · obtain ⟨fp, fq, a, r, n, f⟩ := b
      obtain ⟨w, e1, r1⟩ := reps1' r
      cases e1
      obtain ⟨p1, vs, g, rfl, e2, _, r2, hor⟩ := lst_of r1
      have sub : ∀ x ∈ g, x ∈ fq := fun x hx => by
        rcases hor with rfl | rfl
        · exact List.mem_cons_of_mem _ hx
        · cases hx
      have nd : (fp ++ g).Nodup := by
        obtain ⟨n1, n2, n3⟩ := nodup_app.mp n
        refine nodup_app.mpr ⟨n1, ?_, fun x hx hy => n3 x hx (sub x hy)⟩
        rcases hor with rfl | rfl
        · exact (List.nodup_cons.mp n2).2
        · exact .nil
      exact .inr ⟨p1, vs, rfl, SqL.of e2, by rw [← r2.length]; exact setsE_len is h, sets_sem is ⟨fp, g, a, r2, nd, fun x hx => f x ((List.mem_append.mp hx).elim (List.mem_append_left _) fun h => List.mem_append_right _ (sub x h))⟩ h q⟩
    · exact h.elim
/-! ### what is walked -/
/-- a heap behind statements: what was frozen, and all but lists, stands -/
structure Evo (p0 : Option Addr) (H : Hp) (G : GS) (H' : Hp) (G' : GS) : Prop where
  keep : ∀ p o, some p ≠ p0 → H p = some o → (G p ∨ ∀ xs, o ≠ .lst xs) → H' p = some o
  gs : ∀ p, G p → G' p
theorem Grow.evo (g : Grow p0 H G H' G') : Evo p0 H G H' G' := ⟨fun p o a b _ => g.keep p o a b, g.gs⟩
theorem Evo.trans (a : Evo p0 H G H1 G1) (b : Evo p0 H1 G1 H2 G2) : Evo p0 H G H2 G2 := ⟨fun p o n h z => b.keep p o n (a.keep p o n h z) (z.imp (a.gs p) id), fun p h => b.gs p (a.gs p h)⟩
mutual
theorem Rep.evo {K : PySem.W.Frag} (h : PL p0 H) (g : Evo p0 H G H' G') : ∀ {d : D} {v : V}, Rep K C p0 H G d v [] → Rep K C p0 H' G' d v []
  | .non, _, r => by unfold Rep at r ⊢; exact r
  | .bl _, _, r => by unfold Rep at r ⊢; exact r
  | .int _, _, r => by unfold Rep at r ⊢; exact r
  | .str _, _, r => by unfold Rep at r ⊢; exact r
  | .rat q, _, r => by
    unfold Rep at r ⊢
    obtain ⟨⟨p, dx, fs, e, q1, q2⟩, e2⟩ := r
    exact ⟨⟨p, dx, fs, e, g.keep _ _ (h.ne q1 fun _ z => by cases z) q1 (.inr fun _ z => by cases z), q2⟩, e2⟩
  | .tup ds, _, r => by
    unfold Rep at r ⊢
    obtain ⟨p, vs, e, q1, q2⟩ := r
    exact ⟨p, vs, e, g.keep _ _ (h.ne q1 fun _ z => by cases z) q1 (.inr fun _ z => by cases z), Reps.evo h g q2⟩
  | .lst o ds, _, r => by
    unfold Rep at r ⊢
    obtain ⟨p, vs, f, e, q1, np, q2, q3⟩ := r
    rcases q3 with ⟨a, b, c⟩ | ⟨a, b, c⟩
    · cases c
    · rw [c.1] at q2
      exact ⟨p, vs, [], e, g.keep _ _ np q1 (.inl b), np, Reps.evo h g q2, .inr ⟨a, g.gs _ b, rfl, rfl⟩⟩
  | .strm, _, r => by unfold Rep at r ⊢; exact r
  | .scr ns, _, r => by
    unfold Rep at r ⊢
    obtain ⟨⟨p, e, q⟩, e2⟩ := r
    refine ⟨⟨p, e, ?_⟩, e2⟩
    rcases q with ⟨o, q⟩ | q
    · exact .inl ⟨o, g.keep _ _ (h.ne q fun _ z => by cases z) q (.inr fun _ z => by cases z)⟩
    · exact .inr q
theorem Reps.evo {K : PySem.W.Frag} (h : PL p0 H) (g : Evo p0 H G H' G') : ∀ {ds : List D} {vs : List V}, Reps K C p0 H G ds vs [] → Reps K C p0 H' G' ds vs []
  | [], _, r => by unfold Reps at r ⊢; exact r
  | d :: ds, _, r => by
    unfold Reps at r ⊢
    obtain ⟨v, r', f, g', e1, e2, a, b⟩ := r
    obtain ⟨rfl, rfl⟩ : f = [] ∧ g' = [] := by simpa using e2.symm
    exact ⟨v, r', [], [], e1, rfl, Rep.evo h g a, Reps.evo h g b⟩
end
/-- J hands out ds, now and behind statements -/
def Yl (K : PySem.W.Frag) (C : Addr) (p0 : Option Addr) (J : It) (ds : List D) (H : Hp) (G : GS) : Prop :=
  (∀ (i : Nat) d H2 G2, ds[i]? = some d → Evo p0 H G H2 G2 → PL p0 H2 → J.go i H2 ∧ ∀ x H3, J.yld i H2 x H3 → Ex H2 H3 ∧ Rep K C p0 H3 G2 d x []) ∧ ∀ H2 G2, Evo p0 H G H2 G2 → PL p0 H2 → J.stop ds.length H2
def SI (C : Addr) (Γ : String → Option MDef) (k : Nat) (X : Cx) (tg : Expr) (m : MI) (e : Expr) : Prop := ∃ wi, PI X tg e wi ∧ ∀ (p0 : Option Addr) (H0 : Hp) (G0 : GS) (H : Hp) (G : GS) (s : Strm) (env : En) (σ : L2.St) (R : It → Hp → Prop), StX X.K C p0 H0 G0 H G s env σ →
  W (items (callF Γ k) env m) s (fun ds s' => D.noOwns ds = true ∧ ∀ H' G' J, Grow p0 H G H' G' → StX X.K C p0 H0 G0 H' G' s' env σ → Yl X.K C p0 J ds H' G' → R J H') → wi σ H R
theorem yl_list {K : PySem.W.Frag} {ds : List D} {vs : List V} {a : Addr} (pl : PL p0 H) (h : H a = some (.lst vs)) (np : some a ≠ p0) (hG : G a) (r : Reps K C p0 H G ds vs []) : Yl K C p0 (Itl K a) ds H G := by
  have inj : ∀ {H2 : Hp} {xs : List V}, H2 a = some (.lst vs) → SqL K H2 a xs → True := fun _ _ => trivial
  refine ⟨fun i d H2 G2 e g pl2 => ?_, fun H2 G2 g _ => ?_⟩
  · have h2 := g.keep a _ np h (.inl hG)
    obtain ⟨w, f, e1, e2, e3, _⟩ := r.get e
    refine ⟨⟨vs, w, SqL.of h2, e1⟩, fun x H3 y => ?_⟩
    obtain ⟨rfl, y⟩ := y
    have := y vs (SqL.of h2)
    rw [e1] at this
    cases this
    exact ⟨Ex.rfl', (r.at e e1).evo pl g⟩
  · exact ⟨vs, SqL.of (g.keep a _ np h (.inl hG)), by rw [r.length]; exact Nat.le_refl _⟩
theorem yl_tup {K : PySem.W.Frag} {ds : List D} {vs : List V} {a : Addr} (pl : PL p0 H) (h : H a = some (.tup vs)) (r : Reps K C p0 H G ds vs []) : Yl K C p0 (Itt K a) ds H G := by
  have np := pl.ne h fun _ z => by cases z
  refine ⟨fun i d H2 G2 e g pl2 => ?_, fun H2 G2 g _ => ?_⟩
  · have h2 := g.keep a _ np h (.inr fun _ z => by cases z)
    obtain ⟨w, f, e1, e2, e3, _⟩ := r.get e
    refine ⟨⟨vs, w, SqT.of h2, e1⟩, fun x H3 y => ?_⟩
    obtain ⟨rfl, y⟩ := y
    have := y vs (SqT.of h2)
    rw [e1] at this
    cases this
    exact ⟨Ex.rfl', (r.at e e1).evo pl g⟩
  · exact ⟨vs, SqT.of (g.keep a _ np h (.inr fun _ z => by cases z)), by rw [r.length]; exact Nat.le_refl _⟩
theorem yl_range {K : PySem.W.Frag} {lo : Int} {n : Nat} : Yl K C p0 (Itr lo n) (rangeD lo n) H G := by
  refine ⟨fun i d H2 G2 e g pl2 => ?_, fun H2 G2 g _ => ?_⟩
  · unfold rangeD at e
    rw [List.getElem?_map] at e
    cases q : (List.range n)[i]? with
    | none => rw [q] at e; cases e
    | some z =>
      rw [q] at e
      cases e
      obtain ⟨h1, h2⟩ := List.getElem?_eq_some_iff.mp q
      rw [List.getElem_range] at h2
      subst h2
      rw [List.length_range] at h1
      refine ⟨h1, fun x H3 y => ?_⟩
      obtain ⟨rfl, rfl⟩ := y
      exact ⟨Ex.rfl', int_rep⟩
  · show n ≤ (rangeD lo n).length
    unfold rangeD
    simp
/-- a walk over a list, a tuple, the script: which one is told by the value -/
def iSeq (K : PySem.W.Frag) (te : TE) : TI := fun σ H R => te σ H fun x H1 => ∃ a, x = .ref a ∧ ((∃ xs, SqL K H1 a xs) ∧ R (Itl K a) H1 ∨ (∃ xs, SqT K H1 a xs) ∧ R (Itt K a) H1)
theorem pi_seq {tg e : Expr} {te : TE} (he : PE X e te) : PI X tg e (iSeq X.K te) := by
  refine ⟨fun pins s σ H R I h => ?_⟩
  refine thn (he.run pins s σ H _ I h) fun v s1 ⟨x, H1, I1, r1, a, ex, q⟩ => ?_
  subst ex
  cases r1
  -- the iterator is the newest object
  have put : ∀ (o : Obj) (J : It) (tn : Nat → Heap → Prop), Turn X.prog X.w X.K tg J [s1.heap.objs.size] s1.heap.objs.size tn → tn 0 (s1.heap.push o) → R J H1 → PIE X pins σ tg R (.ref s1.heap.objs.size) { s1 with heap := s1.heap.push o } := by
    intro o J tn T t0 q
    refine ⟨_, _, tn, J, H1, rfl, I1.kept (t' := s1.toks) (fun b u z => Heap.get?_push_of_some _ z), T, t0, fun b hb => ?_, q⟩
    cases List.mem_singleton.mp hb
    exact I1.fpOk (Nat.le_refl _) I1.fresh
  rcases q with ⟨⟨xs, q1⟩, q2⟩ | ⟨⟨xs, q1⟩, q2⟩
  · obtain ⟨its, _, pl, _⟩ := I1.list q1
    exact wpAny_pyIter_list pl.isList (put _ _ _ (turn_list a _) ⟨_, Heap.get?_push_size _ rfl, rfl, rfl⟩ q2)
  · obtain ⟨its, _, pl, _⟩ := I1.tuple q1
    exact wpAny_pyIter_tuple (show Heap.IsTuple _ a its.toArray from pl) (put _ _ _ (turn_tuple a _) ⟨_, Heap.get?_push_size _ rfl, rfl, rfl⟩ q2)
/-- a value that is walked: frozen from here on -/
theorem seq_sem {R : It → Hp → Prop} {x : V} {fq : List Addr} (x1 : StX X.K C p0 H0 G0 H G s env σ) (g1 : Grow p0 H G H' G') (x2 : StX X.K C p0 H0 G0 H' G' s2 env σ) (r : Rep X.K C p0 H' G' d x fq) (n : fq.Nodup) (f : ∀ a ∈ fq, H a = none)
    (h : W (seqD d) s2 fun ds s' => s' = s2 ∧ D.noOwns ds = true ∧ ∀ G2 J, Grow p0 H G H' G2 → StX X.K C p0 H0 G0 H' G2 s2 env σ → Yl X.K C p0 J ds H' G2 → R J H') :
    ∃ a, x = .ref a ∧ ((∃ xs, SqL X.K H' a xs) ∧ R (Itl X.K a) H' ∨ (∃ xs, SqT X.K H' a xs) ∧ R (Itt X.K a) H') := by
  unfold seqD at h
  split at h
  · rename_i ns
    rw [Rep] at r
    obtain ⟨⟨a, rfl, sc⟩, _⟩ := r
    refine ⟨a, rfl, .inl ⟨⟨_, sc.sq⟩, h.2.2 G' _ g1 x2 ⟨fun i d H2 G2 e g pl2 => ?_, fun H2 G2 g _ => ?_⟩⟩⟩
    all_goals
      have sq : SqL X.K H2 a (ns.map V.int) := by
        rcases sc with ⟨o, q⟩ | q
        · exact .inl (.inr ⟨o, g.keep _ _ (x2.pl.ne q fun _ z => by cases z) q (.inr fun _ z => by cases z)⟩)
        · exact .inr q
    · have e' := e
      rw [List.getElem?_map] at e
      cases q : ns[i]? with
      | none => rw [q] at e; cases e
      | some z =>
        rw [q] at e
        cases e
        have e1 : (ns.map V.int)[i]? = some (V.int z) := by rw [List.getElem?_map, q] <;> rfl
        refine ⟨⟨_, _, sq, e1⟩, fun x H3 y => ?_⟩
        obtain ⟨rfl, y⟩ := y
        have := y _ sq
        rw [e1] at this
        cases this
        exact ⟨Ex.rfl', int_rep⟩
    · exact ⟨_, sq, by simp⟩
  · obtain ⟨a, vs, rfl, e1, r1⟩ := tup_of r
    have := r1.noOwn h.2.1
    subst this
    exact ⟨a, rfl, .inr ⟨⟨_, SqT.of e1⟩, h.2.2 G' _ g1 x2 (yl_tup x2.pl e1 r1)⟩⟩
  · obtain ⟨a, vs, f1, rfl, e1, np, r1, e5⟩ := lst_of r
    have := r1.noOwn h.2.1
    subst this
    refine ⟨a, rfl, .inl ⟨⟨_, SqL.of e1⟩, ?_⟩⟩
    rw [Rep] at r
    obtain ⟨a', vs', f2, ea, e1', _, r1', q3⟩ := r
    cases ea
    rw [e1] at e1'
    cases e1'
    rcases q3 with ⟨_, b, c⟩ | ⟨_, b, c, _⟩
    · -- a list of one's own, just made: it is frozen
      have ha : H a = none := f a (by rw [c]; exact List.mem_cons_self)
      have gr : Grow p0 H G H' (fun z => G' z ∨ z = a) := ⟨g1.keep, fun p h => .inl (g1.gs p h), fun p o np h e => h.elim (fun h => g1.new p o np h e) fun h => (by rw [h, ha] at e; cases e), g1.hd⟩
      have x3 : StX X.K C p0 H0 G0 H' (fun z => G' z ∨ z = a) s2 env σ := by
        refine ⟨x1.grow.trans gr, fun p hp => ?_, fun p hp => ?_, ?_⟩
        · obtain ⟨pc, a1, a2, a3, a4, a5⟩ := x2.strm p hp
          exact ⟨pc, a1, a2, a3, .inl a4, a5⟩
        · rcases hp with hp | hp
          · exact x2.gs p hp
          · rw [hp]; exact ⟨np, _, e1⟩
        · obtain ⟨fp, b1, b2, b3⟩ := x1.env
          exact ⟨fp, b1.grow x1.pl gr, b2, b3⟩
      exact h.2.2 _ _ gr x3 (yl_list x2.pl e1 np (.inr rfl) (Reps.more (fun _ z => .inl z) (by simp) r1))
    · exact h.2.2 G' _ g1 x2 (yl_list x2.pl e1 np b r1)
  · exact h.elim
theorem W_seqD {d : D} {s : Strm} {R : List D → Strm → Prop} (h : W (seqD d) s R) : W (seqD d) s fun ds s' => s' = s ∧ R ds s' := by
  unfold seqD at h ⊢
  split at h <;> first | exact ⟨rfl, h⟩ | exact h.elim
theorem si_seq {tg e : Expr} {m : ME} (ha : SE C Γ k X .v m e) : SI C Γ k X tg (.seq m) e := by
  obtain ⟨t, a1, a2⟩ := ha
  refine ⟨_, pi_seq a1, fun p0 H0 G0 H G s env σ R x h => ?_⟩
  rw [items] at h
  refine a2 p0 H0 G0 H G s env σ _ x (W_mono (W_bind.mp h) fun d s1 q H1 G1 v fp g1 x1 r1 z1 => ?_)
  obtain ⟨n, f⟩ := z1 rfl
  refine seq_sem x g1 x1 r1 n f (W_mono (W_seqD q) fun ds s' q => ⟨q.1, q.2.1, fun G2 J g x2 y => ?_⟩)
  obtain ⟨q0, q1, q2⟩ := q
  subst q0
  exact q2 H1 G2 J g x2 y
theorem range_noOwn {lo : Int} {n : Nat} : D.noOwns (rangeD lo n) = true := by
  unfold rangeD
  generalize List.range n = l
  induction l with
  | nil => rfl
  | cons a l ih => exact ih
theorem si_rng (g : Gd C Γ Gs k X) {tg e : Expr} {m : ME} {p1 : Pos} (ha : SE C Γ k X .v m e) (hg : Gl X "range") (hs : starEach [e] X.env = [(false, eval e X.env)]) : SI C Γ k X tg (.rng m) (.Call (.Name "range" p1) [e] [] pos) := by
  obtain ⟨t, a1, a2⟩ := ha
  refine ⟨_, pi_range1 hg (g.wd.free _ (by decide)) (pa_cons a1 pa_nil (by rw [hs] <;> rfl)) hs, fun p0 H0 G0 H G s env σ R x h => ?_⟩
  rw [items] at h
  refine a2 p0 H0 G0 H G s env σ _ x (W_mono (W_bind.mp h) fun d s1 q H1 G1 v fp g1 x1 r1 z1 => ?_)
  unfold rngD at q
  split at q
  · obtain ⟨⟨c1, c2⟩, q⟩ := W_guard.mp (W_bind.mp q)
    rw [int_of r1]
    have c' : (LIM : Int) = 1000000 := rfl
    rw [c'] at c1 c2
    exact ⟨_, rfl, by omega, by omega, q.2 H1 G1 _ g1 x1 yl_range⟩
  · exact q.elim
theorem si_rng2 (g : Gd C Γ Gs k X) {tg e e' : Expr} {m m' : ME} {p1 : Pos} (ha : SE C Γ k X .v m e) (hb : SE C Γ k X .v m' e') (hg : Gl X "range") (hs : starEach [e, e'] X.env = [(false, eval e X.env), (false, eval e' X.env)]) (hs2 : starEach [e'] X.env = [(false, eval e' X.env)]) : SI C Γ k X tg (.rng2 m m') (.Call (.Name "range" p1) [e, e'] [] pos) := by
  obtain ⟨ta, tb, a1, b1, h2⟩ := two_p ha hb
  refine ⟨_, pi_range2 hg (g.wd.free _ (by decide)) (pa_cons a1 (pa_cons b1 pa_nil (by rw [hs2] <;> rfl)) (by rw [hs, hs2])) hs hs2, fun p0 H0 G0 H G s env σ R x h => ?_⟩
  rw [items] at h
  refine h2 p0 H0 G0 H G s env σ _ x (W_mono (W_bind.mp h) fun dx s1 q => W_mono (W_bind.mp q) fun dy s2 q H2 G2 x y fa fb g x2 r1 _ r2 => ?_)
  unfold rng2D at q
  split at q
  · obtain ⟨⟨c1, c2, c3, c4⟩, q⟩ := W_guard.mp (W_bind.mp q)
    rw [int_of r1, int_of r2]
    have c' : (LIM : Int) = 1000000 := rfl
    rw [c'] at c1 c2 c3 c4
    exact ⟨_, _, rfl, ⟨by omega, by omega, by omega, by omega⟩, q.2 H2 G2 _ g x2 yl_range⟩
  · exact q.elim
end
end Mp

namespace Mp
open PySem PySem.Spec
open PyProof.Rows L2
/-! ### enumerate and zip over lists and tuples -/
def SqB (K : PySem.W.Frag) (o : Bool) (H : Hp) (a : Addr) (xs : List V) : Prop := if o then SqL K H a xs else SqT K H a xs
def ItB (o : Bool) (h : Heap) (it a : Addr) (i : Nat) : Prop := if o then h.IsListIter it a i else h.IsTupleIter it a i
def IsB (o : Bool) (h : Heap) (a : Addr) (items : Array Value) : Prop := if o then h.IsList a items else h.IsTuple a items
theorem drawsB {prog : Program} {w : World} {A : Around} (hh : A.handled = none) (o : Bool) (it a : Addr) (hne : a ≠ it) (items : Array Value) :
    Draws prog w A it [it, a] items.size (fun i v => items[i]? = some v) (fun i h => ItB o h it a i ∧ IsB o h a items) := by
  cases o
  · exact Draws.tuple hh it a hne items
  · exact Draws.list hh it a hne items
theorem sqB_inv {X : Cx} {pins : List (Addr × Obj)} {σ : L2.St} {H : Hp} {s : Shared} {a : Addr} {xs : List V} {o : Bool} (I : Inv X pins σ H s) (h : SqB X.K o H a xs) : ∃ its : List Value, Vals xs its ∧ IsB o s.heap a its.toArray := by
  cases o
  · obtain ⟨its, rv, p, _⟩ := I.tuple h
    exact ⟨its, rv, p⟩
  · obtain ⟨its, rv, p, _⟩ := I.list h
    exact ⟨its, rv, p.isList⟩
theorem sqB_inj {X : Cx} {pins : List (Addr × Obj)} {σ : L2.St} {H : Hp} {s : Shared} {a : Addr} {xs ys : List V} {o : Bool} (I : Inv X pins σ H s) (h : SqB X.K o H a xs) (h' : SqB X.K o H a ys) : xs = ys := by
  cases o
  · exact I.tuple_inj h h'
  · exact I.list_inj h h'
theorem itB_obj {o : Bool} {h : Heap} {it a : Addr} {i : Nat} (st : ItB o h it a i) : ∃ ob, h.get? it = some ob ∧ ∀ v, ob.data = .cell v → False := by
  cases o
  · obtain ⟨ob, ho, hc, hd⟩ := st
    exact ⟨ob, ho, fun v q => by rw [hd] at q; cases q⟩
  · obtain ⟨ob, ho, hc, hd⟩ := st
    exact ⟨ob, ho, fun v q => by rw [hd] at q; cases q⟩
theorem itB_at {o : Bool} {h h' : Heap} {it a : Addr} {i : Nat} (st : ItB o h it a i) (k : ∀ ob, h.get? it = some ob → h'.get? it = some ob) : ItB o h' it a i := by
  cases o
  · exact Heap.IsTupleIter.at st k
  · exact Heap.IsListIter.at st k
theorem isB_lt {o : Bool} {h : Heap} {a : Addr} {its : Array Value} (st : IsB o h a its) : a < h.objs.size := by
  cases o
  · obtain ⟨ob, ho, _⟩ := st
    exact Heap.lt_size ho
  · obtain ⟨ob, ho, _⟩ := st
    exact Heap.lt_size ho
/-! enumerate -/
theorem meets_enumerate_newT (l : Addr) (items : Array Value) :
    Meets (Builtin.«enumerate.__new__» ⟨[.type "enumerate", .ref l], []⟩) (fun _ R s => s.heap.IsTuple l items ∧
      R (.ok (.ret (.ref (s.heap.push { cls := .type "tuple_iterator", data := .fields #[.ref l, .int 0 0] }).objs.size)))
        { s with heap := (s.heap.push { cls := .type "tuple_iterator", data := .fields #[.ref l, .int 0 0] }).push { cls := .type "enumerate", data := .fields #[.none, .bool false, .ref s.heap.objs.size, rawInt 0, .none, .none] } }) :=
  .of_wp fun prog w A R s h => by
    obtain ⟨hp, g, d, tk, os⟩ := s; obtain ⟨hl, h⟩ := h
    have hsub := sub_enumerate
    have hL : Heap.IsTuple (Shared.heap ⟨hp, g, d, tk, os⟩) l items := hl
    wp_walk
    refine wpAny_stack_any fun st => wpAny_pure ?_
    split
    · rename_i c _ _ _ _ _
      cases (c == Value.type "enumerate")
      · wp_walk using wpAny_pyIter_tuple hL
        exact ⟨_, rfl, h⟩
      · wp_walk using wpAny_pyIter_tuple hL
        exact ⟨_, rfl, h⟩
    · wp_walk using wpAny_pyIter_tuple hL
      exact ⟨_, rfl, h⟩
theorem call_enumerateB {prog : Program} {w : World} {A : Around} {E : Value → Shared → Prop} {s : Shared} {o : Bool} {l : Addr} {items : Array Value} {Q : Value → Shared → Prop} (hL : IsB o s.heap l items)
    (h : ∀ h', IsEnum h' (s.heap.objs.size + 1) s.heap.objs.size 0 .none → ItB o h' s.heap.objs.size l 0 → h'.objs.size = s.heap.objs.size + 2 →
      (∀ b o, s.heap.get? b = some o → h'.get? b = some o) → Q (.ref (s.heap.objs.size + 1)) { s with heap := h' }) :
    wpAny (model prog w) A (call (.type "enumerate") [.ref l]) Q E s := by
  cases o
  · refine callType_new F.called_enumerate (by decide) (F.typeCall_enumerate_1 _) (F.newCall_enumerate_1 _) (fun obj => F.args_object_init_2 obj _) F.entry_enumerate_new
      (meets_enumerate_newT l items) ⟨hL, ?_⟩
    have hz : (s.heap.push { cls := .type "tuple_iterator", data := .fields #[.ref l, .int 0 0] }).objs.size = s.heap.objs.size + 1 := Heap.size_push ..
    show _ ∧ _
    rw [hz]
    have he : IsEnum ((s.heap.push { cls := .type "tuple_iterator", data := .fields #[.ref l, .int 0 0] }).push
        { cls := .type "enumerate", data := .fields #[.none, .bool false, .ref s.heap.objs.size, rawInt 0, .none, .none] }) (s.heap.objs.size + 1) s.heap.objs.size 0 .none := by
      have := Heap.get?_push_size (s.heap.push { cls := .type "tuple_iterator", data := .fields #[.ref l, .int 0 0] })
        (o := { cls := .type "enumerate", data := .fields #[.none, .bool false, .ref s.heap.objs.size, rawInt 0, .none, .none] }) rfl
      rw [hz] at this; exact this
    exact ⟨⟨_, he, rfl⟩, h _ he ⟨_, Heap.get?_push_of_some _ (Heap.get?_push_size _ rfl), rfl, rfl⟩ (by rw [Heap.size_push, hz]) fun b o x => Heap.get?_push_of_some _ (Heap.get?_push_of_some _ x)⟩
  · exact call_enumerate_list hL h
/-- the list or tuple at a as it stands at each turn, each item in a new pair -/
def IteB (K : PySem.W.Frag) (o : Bool) (a : Addr) : It :=
  ⟨fun i H => ∃ (xs : List V) (x : V), SqB K o H a xs ∧ xs[i]? = some x, fun i H v H' => ∃ T x, v = .ref T ∧ H T = none ∧ H' = upd H T (.tup [.int (i : Nat), x]) ∧ ∀ xs, SqB K o H a xs → xs[i]? = some x, fun i H => ∃ xs : List V, SqB K o H a xs ∧ xs.length ≤ i ∧ ∀ j, j < i → ∃ (ys : List V) (y : V), SqB K o H a ys ∧ ys[j]? = some y⟩
theorem turn_enumB {P : Program} {w : World} {K : PySem.W.Frag} {elts : List Expr} {kk : Nat} {tpos : Pos} (o : Bool) (a e it : Addr) :
    Turn P w K (.Tuple elts kk tpos) (IteB K o a) [e, it] e (fun i h => (∃ old, IsEnum h e it ((i : Nat) : Int) old) ∧ ItB o h it a i ∧ e ≠ it ∧ a ≠ it ∧ a ≠ e) where
  mem := by simp
  obj := fun i h st b hb => by
    obtain ⟨⟨old, he⟩, hi, _⟩ := st
    have e' : b = e ∨ b = it := by simpa using hb
    rcases e' with z | z
    · rw [z]; exact ⟨_, he, fun v q => nomatch q⟩
    · rw [z]; exact itB_obj hi
  keep := fun i h h' st k => let ⟨⟨old, he⟩, hi, hne⟩ := st; ⟨⟨old, k e (by simp) _ he⟩, itB_at hi fun o q => k it (by simp) o q, hne⟩
  item := by
    intro X hP hw hK hc i pins s σ H E I hf st hg
    subst hP hw hK
    obtain ⟨⟨old, he⟩, hit, hne, ha1, ha2⟩ := st
    obtain ⟨xs, x, hq, hx⟩ := hg
    obtain ⟨its, rv, p⟩ := sqB_inv I hq
    obtain ⟨u, hu, ru⟩ := rv.get hx
    have hel : e < s.heap.objs.size := Heap.lt_size he
    have hil : it < s.heap.objs.size := by obtain ⟨_, q, _⟩ := itB_obj hit; exact Heap.lt_size q
    have hlt : i < its.toArray.size := by
      have := (List.getElem?_eq_some_iff.mp hu).1
      simpa using this
    refine wpAny_pyNext_enum_itemD (drawsB (A := X.A.in1) (I.ok.hd hc) o it a ha1 its.toArray) he ⟨hit, p⟩ hlt hne (by simp; exact ⟨hne, fun z => ha2 z.symm⟩) fun x' h' tk hx' ho hst' hT hsz hk => ?_
    have ex : x' = u := by
      have h1 : its[i]? = some x' := by simpa using hx'
      rw [hu] at h1
      cases h1
      rfl
    subst ex
    refine ⟨_, rfl, wpAny_letOwnedTupleGo_enum (s := { s with heap := h', toks := tk + 1 }) ho fun h'' he' sb => ?_⟩
    have hT2 : h''.get? s.heap.objs.size = some { cls := .type "tuple", data := .seq #[.int i tk, x'] } := (sb.2 _ (Nat.ne_of_gt hel)).trans hT
    have new : ObjOk X.prog X.w (upd H s.heap.objs.size (.tup [.int (i : Nat), x])) h'' s.heap.objs.size (.tup [.int (i : Nat), x]) :=
      ⟨by show 2 ≤ sizeLine; decide, [.int i tk, x'], .cons ⟨_, rfl⟩ (.cons ru .nil), ⟨_, hT2, rfl, _, rfl⟩⟩
    have I1 : Inv X pins σ (upd H s.heap.objs.size (.tup [.int (i : Nat), x])) { s with heap := h'', toks := tk + 1 } :=
      I.turnedNew (t' := tk + 1) (ch := [e, it]) (fun b ob hb q => (sb.2 b (fun z => hb (by simp [z]))).trans (hk b ob (fun z => hb (by simp [z])) (fun z => hb (by simp [z])) q)) hf (Nat.le_refl _) new
    refine ⟨.ref s.heap.objs.size, _, I1, rfl, ⟨_, x, rfl, I.hok.fresh (Nat.le_refl _), rfl, fun ys hy => by rw [sqB_inj I hy hq]; exact hx⟩, ⟨⟨x', ?_⟩, itB_at hst'.1 fun o q => (sb.2 it (Ne.symm hne)).trans q, hne, ha1, ha2⟩, fun b hb => ?_⟩
    · have e1 : ((i + 1 : Nat) : Int) = (i : Int) + 1 := by omega
      rw [e1]; exact he'
    · have hb' : b < s.heap.objs.size := by
        have e' : b = e ∨ b = it := by simpa using hb
        rcases e' with z | z
        · rw [z]; exact hel
        · rw [z]; exact hil
      rw [upd_ne (Nat.ne_of_lt hb')]
      exact (hf b hb).1
  done := by
    intro X hP hw hK hc i pins s σ H E I hf st hg
    subst hP hw hK
    obtain ⟨⟨old, he⟩, hit, hne, ha1, ha2⟩ := st
    obtain ⟨xs, hq, hx, hgo⟩ := hg
    have hx : xs.length = i := by
      rcases Nat.lt_or_ge xs.length i with h | h
      · obtain ⟨ys, y, q1, q2⟩ := hgo _ h
        rw [sqB_inj I q1 hq] at q2
        have := (List.getElem?_eq_some_iff.mp q2).1
        omega
      · omega
    obtain ⟨its, rv, p⟩ := sqB_inv I hq
    obtain ⟨f0, f1, f2, f3, f4, f5⟩ := hf it (by simp)
    have hl := rv.length
    have hi : i = its.toArray.size := by simp; omega
    refine wpAny_pyNext_enum_endD (drawsB (A := X.A.in1) (I.ok.hd hc) o it a ha1 its.toArray) he ⟨?_, p⟩ fun h' eb => ⟨rfl, I.turned (t' := s.toks) (fun b o hb q => eb b o hb q) f0 f1 f3 f4 f5⟩
    rw [← hi]
    exact hit
  self := fun A i s Q E st h => let ⟨⟨_, he⟩, _⟩ := st; wpAny_pyIter_enum he h
def iEnumB (K : PySem.W.Frag) (ta : TA) : TI := fun σ H R => ta σ H fun vs H1 => ∃ o a xs, vs = [.ref a] ∧ SqB K o H1 a xs ∧ R (IteB K o a) H1
theorem pi_enumB {X : Cx} {e : Expr} {ta : TA} {p pos tpos : Pos} {elts : List Expr} {kk : Nat} (hg : Gl X "enumerate") (hm : X.mg "enumerate" = none) (ha : PA X [e] ta) (hs : starEach [e] X.env = [(false, eval e X.env)] := by rfl) :
    PI X (.Tuple elts kk tpos) (.Call (.Name "enumerate" p) [e] [] pos) (iEnumB X.K ta) := by
  refine ⟨fun pins s σ H R I h => ?_⟩
  refine Call_ (ld_blt I hg hm boot_enumerate (PyProof.Rows.callWith_type1 (thn (ha.run pos pins s σ H _ I h) fun us s1 ⟨vs, H1, I1, r1, q1⟩ => ?_) hs rfl))
  obtain ⟨o, a, xs, ex, hq, q⟩ := q1
  subst ex
  cases r1 with
  | cons r rr =>
    cases rr
    cases r
    obtain ⟨its, rv, p'⟩ := sqB_inv I1 hq
    have hal := isB_lt p'
    refine call_enumerateB p' fun h' he hit hsz hk => wpAny_pyIter_enum he ?_
    have I2 : Inv X pins σ H1 { s1 with heap := h' } := I1.kept (t' := s1.toks) hk
    refine ⟨s1.heap.objs.size + 1, [s1.heap.objs.size + 1, s1.heap.objs.size], _, _, H1, rfl, I2, turn_enumB o a (s1.heap.objs.size + 1) s1.heap.objs.size, ⟨⟨.none, he⟩, hit, Nat.succ_ne_self _, Nat.ne_of_lt hal, Nat.ne_of_lt (Nat.lt_succ_of_lt hal)⟩, fun b hb => ?_, q⟩
    have e' : b = s1.heap.objs.size + 1 ∨ b = s1.heap.objs.size := by simpa using hb
    have hle : s1.heap.objs.size ≤ b := by
      rcases e' with z | z
      · rw [z]; exact Nat.le_add_right _ _
      · rw [z]; exact Nat.le_refl _
    exact I1.fpOk hle (I1.hok.fresh hle)
end Mp

namespace Mp
open PySem PySem.Spec
open PyProof.Rows L2
def itN (o : Bool) : String := if o then "list_iterator" else "tuple_iterator"
abbrev zbH1 (o : Bool) (h : Heap) (l1 : Addr) : Heap := h.push { cls := .type (itN o), data := .fields #[.ref l1, .int 0 0] }
abbrev zbH2 (o o' : Bool) (h : Heap) (l1 l2 : Addr) : Heap := (zbH1 o h l1).push { cls := .type (itN o'), data := .fields #[.ref l2, .int 0 0] }
abbrev zbH3 (o o' : Bool) (h : Heap) (l1 l2 : Addr) : Heap := (zbH2 o o' h l1 l2).push { cls := .type "tuple", data := .seq #[.ref h.objs.size, .ref (zbH1 o h l1).objs.size] }
abbrev zbH4 (o o' : Bool) (h : Heap) (l1 l2 : Addr) : Heap := (zbH3 o o' h l1 l2).push { cls := .type "tuple", data := .seq #[.none, .none] }
abbrev zbH5 (o o' : Bool) (h : Heap) (l1 l2 : Addr) : Heap := (zbH4 o o' h l1 l2).push { cls := .type "zip", data := .fields #[.none, .bool false, .bool false, .ref (zbH2 o o' h l1 l2).objs.size, .ref (zbH3 o o' h l1 l2).objs.size] }
theorem meets_zipB_new (o o' : Bool) (l1 l2 : Addr) (xs ys : Array Value) :
    Meets (Builtin.«zip.__new__» ⟨[.type "zip", .ref l1, .ref l2], []⟩) (fun _ R s => IsB o s.heap l1 xs ∧ IsB o' s.heap l2 ys ∧
      R (.ok (.ret (.ref (zbH4 o o' s.heap l1 l2).objs.size))) { s with heap := zbH5 o o' s.heap l1 l2 }) :=
  .of_wp fun prog w A R s h => by
    obtain ⟨hp, g, d, tk, os⟩ := s; obtain ⟨hl1, hl2, h⟩ := h
    have hsub := sub_zip
    cases o <;> cases o'
    · have hL1 : Heap.IsTuple (Shared.heap ⟨hp, g, d, tk, os⟩) l1 xs := hl1
      have hL2 : Heap.IsTuple (Shared.heap ⟨hp.push { cls := .type "tuple_iterator", data := .fields #[.ref l1, .int 0 0] }, g, d, tk, os⟩) l2 ys := Heap.IsTuple.push hl2 _
      wp_walk using wpAny_pyIter_tuple hL1, wpAny_pyIter_tuple hL2
      exact ⟨_, rfl, h⟩
    · have hL1 : Heap.IsTuple (Shared.heap ⟨hp, g, d, tk, os⟩) l1 xs := hl1
      have hL2 : Heap.IsList (Shared.heap ⟨hp.push { cls := .type "tuple_iterator", data := .fields #[.ref l1, .int 0 0] }, g, d, tk, os⟩) l2 ys := Heap.IsList.push hl2 _
      wp_walk using wpAny_pyIter_tuple hL1, wpAny_pyIter_list hL2
      exact ⟨_, rfl, h⟩
    · have hL1 : Heap.IsList (Shared.heap ⟨hp, g, d, tk, os⟩) l1 xs := hl1
      have hL2 : Heap.IsTuple (Shared.heap ⟨hp.push { cls := .type "list_iterator", data := .fields #[.ref l1, .int 0 0] }, g, d, tk, os⟩) l2 ys := Heap.IsTuple.push hl2 _
      wp_walk using wpAny_pyIter_list hL1, wpAny_pyIter_tuple hL2
      exact ⟨_, rfl, h⟩
    · have hL1 : Heap.IsList (Shared.heap ⟨hp, g, d, tk, os⟩) l1 xs := hl1
      have hL2 : Heap.IsList (Shared.heap ⟨hp.push { cls := .type "list_iterator", data := .fields #[.ref l1, .int 0 0] }, g, d, tk, os⟩) l2 ys := Heap.IsList.push hl2 _
      wp_walk using wpAny_pyIter_list hL1, wpAny_pyIter_list hL2
      exact ⟨_, rfl, h⟩
theorem itB_new {o : Bool} {h : Heap} {it a : Addr} (g : h.get? it = some { cls := .type (itN o), data := .fields #[.ref a, .int 0 0] }) : ItB o h it a 0 := by
  cases o
  · exact ⟨_, g, rfl, rfl⟩
  · exact ⟨_, g, rfl, rfl⟩
theorem call_zipB {prog : Program} {w : World} {A : Around} {E : Value → Shared → Prop} {s : Shared} {o o' : Bool} {l1 l2 : Addr} {xs ys : Array Value} {Q : Value → Shared → Prop} (hl1 : IsB o s.heap l1 xs) (hl2 : IsB o' s.heap l2 ys)
    (h : ∀ h', IsZip h' (s.heap.objs.size + 4) (s.heap.objs.size + 2) (s.heap.objs.size + 3) .none → IsPair h' (s.heap.objs.size + 2) (.ref s.heap.objs.size) (.ref (s.heap.objs.size + 1)) →
      IsPair h' (s.heap.objs.size + 3) .none .none → ItB o h' s.heap.objs.size l1 0 → ItB o' h' (s.heap.objs.size + 1) l2 0 → h'.objs.size = s.heap.objs.size + 5 →
      (∀ c o, s.heap.get? c = some o → h'.get? c = some o) → Q (.ref (s.heap.objs.size + 4)) { s with heap := h' }) :
    wpAny (model prog w) A (call (.type "zip") [.ref l1, .ref l2]) Q E s := by
  refine callType_new F.called_zip (by decide) (F.typeCall_zip_2 _ _) (F.newCall_zip_2 _ _) (fun obj => F.args_object_init_3 obj _ _) F.entry_zip_new
    (meets_zipB_new o o' l1 l2 xs ys) ⟨hl1, hl2, ?_⟩
  have fr : ∀ o, ({ cls := .type (itN o), data := .fields #[.ref l1, .int 0 0] } : Obj).isFreed = false := fun o => rfl
  have z1 : (zbH1 o s.heap l1).objs.size = s.heap.objs.size + 1 := Heap.size_push ..
  have z2 : (zbH2 o o' s.heap l1 l2).objs.size = s.heap.objs.size + 2 := by rw [Heap.size_push, z1]
  have z3 : (zbH3 o o' s.heap l1 l2).objs.size = s.heap.objs.size + 3 := by rw [Heap.size_push, z2]
  have z4 : (zbH4 o o' s.heap l1 l2).objs.size = s.heap.objs.size + 4 := by rw [Heap.size_push, z3]
  have z5 : (zbH5 o o' s.heap l1 l2).objs.size = s.heap.objs.size + 5 := by rw [Heap.size_push, z4]
  have g5 : (zbH5 o o' s.heap l1 l2).get? (zbH4 o o' s.heap l1 l2).objs.size = some _ := Heap.get?_push_size _ rfl
  have g4 : (zbH5 o o' s.heap l1 l2).get? (zbH3 o o' s.heap l1 l2).objs.size = some _ := Heap.get?_push_of_some _ (Heap.get?_push_size _ rfl)
  have g3 : (zbH5 o o' s.heap l1 l2).get? (zbH2 o o' s.heap l1 l2).objs.size = some _ := Heap.get?_push_of_some _ (Heap.get?_push_of_some _ (Heap.get?_push_size _ rfl))
  have g2 : (zbH5 o o' s.heap l1 l2).get? (zbH1 o s.heap l1).objs.size = some _ := Heap.get?_push_of_some _ (Heap.get?_push_of_some _ (Heap.get?_push_of_some _ (Heap.get?_push_size _ rfl)))
  have g1 : (zbH5 o o' s.heap l1 l2).get? s.heap.objs.size = some _ := Heap.get?_push_of_some _ (Heap.get?_push_of_some _ (Heap.get?_push_of_some _ (Heap.get?_push_of_some _ (Heap.get?_push_size _ rfl))))
  show _ ∧ _
  rw [z2, z3, z4] at g5
  rw [z1, z2] at g3
  rw [z3] at g4
  rw [z1] at g2
  rw [z4]
  exact ⟨⟨_, g5, rfl⟩, h _ g5 g3 g4 (itB_new g1) (itB_new g2) z5 fun c o x =>
    Heap.get?_push_of_some _ (Heap.get?_push_of_some _ (Heap.get?_push_of_some _ (Heap.get?_push_of_some _ (Heap.get?_push_of_some _ x))))⟩
/-- the sequences at a and b as they stand at each turn, the items in new pairs -/
def ItzB (K : PySem.W.Frag) (o o' : Bool) (a b : Addr) : It :=
  ⟨fun i H => ∃ (xs ys : List V) (x y : V), SqB K o H a xs ∧ SqB K o' H b ys ∧ xs[i]? = some x ∧ ys[i]? = some y,
    fun i H v H' => ∃ T x y, v = .ref T ∧ H T = none ∧ H' = upd H T (.tup [x, y]) ∧ (∀ xs, SqB K o H a xs → xs[i]? = some x) ∧ ∀ ys, SqB K o' H b ys → ys[i]? = some y,
    fun i H => ∃ xs ys : List V, SqB K o H a xs ∧ SqB K o' H b ys ∧ (xs.length ≤ i ∨ ys.length ≤ i) ∧ ∀ j, j < i → (∃ (zs : List V) (z : V), SqB K o H a zs ∧ zs[j]? = some z) ∧ ∃ (zs : List V) (z : V), SqB K o' H b zs ∧ zs[j]? = some z⟩
theorem sep_of {z TI TO i1 i2 a b : Addr} (D : ZipApart z TI TO i1 i2 a b) : ZipSep2 z TI TO i1 i2 [i1, a] [i2, b] where
  TIz := D.TIz
  TOz := D.TOz
  TITO := D.TITO
  TIi1 := D.TIi1
  mem1 := by simp
  zf1 := by simp; exact ⟨D.i1z.symm, D.l1z.symm⟩
  Tf1 := by simp; exact ⟨D.TOi1, D.l1TO.symm⟩
  TIi2 := D.TIi2
  mem2 := by simp
  zf2 := by simp; exact ⟨D.i2z.symm, D.l2z.symm⟩
  Tf2 := by simp; exact ⟨D.TOi2, D.l2TO.symm⟩
  sep1_2 := by simp; exact ⟨D.i12, D.l2i1.symm⟩
  sep2_1 := by simp; exact ⟨D.i12.symm, D.l1i2.symm⟩
theorem turn_zipB {P : Program} {w : World} {K : PySem.W.Frag} {elts : List Expr} {kk : Nat} {tpos : Pos} {o o' : Bool} {a b z TI TO i1 i2 : Addr} (D : ZipApart z TI TO i1 i2 a b) :
    Turn P w K (.Tuple elts kk tpos) (ItzB K o o' a b) [z, TI, TO, i1, i2] z (fun i h => IsZip h z TI TO .none ∧ IsPair h TI (.ref i1) (.ref i2) ∧ (∃ x y, IsPair h TO x y) ∧ ItB o h i1 a i ∧ ItB o' h i2 b i) where
  mem := by simp
  obj := fun i h st c hc => by
    obtain ⟨hz, hTI, ⟨x, y, hTO⟩, h1, h2⟩ := st
    have e' : c = z ∨ c = TI ∨ c = TO ∨ c = i1 ∨ c = i2 := by simpa using hc
    rcases e' with q | q | q | q | q
    · rw [q]; exact ⟨_, hz, fun v q => nomatch q⟩
    · rw [q]; exact ⟨_, hTI, fun v q => nomatch q⟩
    · rw [q]; exact ⟨_, hTO, fun v q => nomatch q⟩
    · rw [q]; exact itB_obj h1
    · rw [q]; exact itB_obj h2
  keep := fun i h h' st k => by
    obtain ⟨hz, hTI, ⟨x, y, hTO⟩, h1, h2⟩ := st
    exact ⟨k z (by simp) _ hz, k TI (by simp) _ hTI, ⟨x, y, k TO (by simp) _ hTO⟩, itB_at h1 fun o q => k i1 (by simp) o q, itB_at h2 fun o q => k i2 (by simp) o q⟩
  item := by
    intro X hP hw hK hc i pins s σ H E I hf st hg
    subst hP hw hK
    obtain ⟨hz, hTI, ⟨x0, y0, hTO⟩, h1, h2⟩ := st
    obtain ⟨xs, ys, x, y, hqx, hqy, hx, hy⟩ := hg
    obtain ⟨its, rv, p⟩ := sqB_inv I hqx
    obtain ⟨its2, rv2, p2⟩ := sqB_inv I hqy
    obtain ⟨u, hu, ru⟩ := rv.get hx
    obtain ⟨u2, hu2, ru2⟩ := rv2.get hy
    have hzl : z < s.heap.objs.size := Heap.lt_size hz
    have hlt1 : i < its.toArray.size := by
      have := (List.getElem?_eq_some_iff.mp hu).1
      simpa using this
    have hlt2 : i < its2.toArray.size := by
      have := (List.getElem?_eq_some_iff.mp hu2).1
      simpa using this
    refine wpAny_pyNext_zipD2_item (sep_of D) (drawsB (A := X.A.in1) (I.ok.hd hc) o i1 a D.l1i1 its.toArray) (drawsB (A := X.A.in1) (I.ok.hd hc) o' i2 b D.l2i2 its2.toArray) hz hTI hTO ⟨h1, p⟩ ⟨h2, p2⟩ hlt1 hlt2 fun v1 v2 h' tk hv1 hv2 z' TO' h1' h2' hT hsz hk => ?_
    have ex : v1 = u := by
      have h1 : its[i]? = some v1 := by simpa using hv1
      rw [hu] at h1
      cases h1
      rfl
    have ey : v2 = u2 := by
      have h1 : its2[i]? = some v2 := by simpa using hv2
      rw [hu2] at h1
      cases h1
      rfl
    subst ex ey
    refine ⟨_, rfl, wpAny_letOwnedTupleGo_zip (s := { s with heap := h', toks := tk }) z' fun h'' z'' sb => ?_⟩
    have hT2 : h''.get? s.heap.objs.size = some { cls := .type "tuple", data := .seq #[v1, v2] } := (sb.2 _ (Nat.ne_of_gt hzl)).trans hT
    have new : ObjOk X.prog X.w (upd H s.heap.objs.size (.tup [x, y])) h'' s.heap.objs.size (.tup [x, y]) :=
      ⟨by show 2 ≤ sizeLine; decide, [v1, v2], .cons ru (.cons ru2 .nil), ⟨_, hT2, rfl, _, rfl⟩⟩
    have I1 : Inv X pins σ (upd H s.heap.objs.size (.tup [x, y])) { s with heap := h'', toks := tk } :=
      I.turnedNew (t' := tk) (ch := [z, TI, TO, i1, i2]) (fun c o hb q => (sb.2 c (fun q' => hb (by simp [q']))).trans (hk c o (fun q' => hb (by simp [q'])) (fun q' => hb (by simp [q'])) (fun q' => hb (by simp [q'])) (fun q' => hb (by simp [q'])) q)) hf (Nat.le_refl _) new
    refine ⟨.ref s.heap.objs.size, _, I1, rfl, ⟨_, x, y, rfl, I.hok.fresh (Nat.le_refl _), rfl, fun l hl => by rw [sqB_inj I hl hqx]; exact hx, fun l hl => by rw [sqB_inj I hl hqy]; exact hy⟩, ⟨z'', ?_, ⟨v1, v2, ?_⟩, ?_, ?_⟩, fun c hcm => ?_⟩
    · exact (sb.2 _ D.TIz).trans (hk _ _ D.TIz D.TITO D.TIi1 D.TIi2 hTI)
    · exact (sb.2 _ D.TOz).trans TO'
    · exact itB_at h1'.1 fun o q => (sb.2 _ D.i1z).trans q
    · exact itB_at h2'.1 fun o q => (sb.2 _ D.i2z).trans q
    · have hlt : c < s.heap.objs.size := by
        have e' : c = z ∨ c = TI ∨ c = TO ∨ c = i1 ∨ c = i2 := by simpa using hcm
        rcases e' with q | q | q | q | q
        · rw [q]; exact hzl
        · rw [q]; exact Heap.lt_size hTI
        · rw [q]; exact Heap.lt_size hTO
        · rw [q]; obtain ⟨_, e1, _⟩ := itB_obj h1; exact Heap.lt_size e1
        · rw [q]; obtain ⟨_, e2, _⟩ := itB_obj h2; exact Heap.lt_size e2
      rw [upd_ne (Nat.ne_of_lt hlt)]
      exact (hf c hcm).1
  done := by
    intro X hP hw hK hc i pins s σ H E I hf st hg
    subst hP hw hK
    obtain ⟨hz, hTI, ⟨x0, y0, hTO⟩, h1, h2⟩ := st
    obtain ⟨xs, ys, hqx, hqy, hend, hgo⟩ := hg
    have hend : i = min xs.length ys.length := by
      have a1 : i ≤ xs.length := by
        rcases Nat.lt_or_ge xs.length i with h | h
        · obtain ⟨⟨zs, y, q1, q2⟩, _⟩ := hgo _ h
          rw [sqB_inj I q1 hqx] at q2
          have := (List.getElem?_eq_some_iff.mp q2).1
          omega
        · omega
      have a2 : i ≤ ys.length := by
        rcases Nat.lt_or_ge ys.length i with h | h
        · obtain ⟨_, zs, y, q1, q2⟩ := hgo _ h
          rw [sqB_inj I q1 hqy] at q2
          have := (List.getElem?_eq_some_iff.mp q2).1
          omega
        · omega
      omega
    obtain ⟨its, rv, p⟩ := sqB_inv I hqx
    obtain ⟨its2, rv2, p2⟩ := sqB_inv I hqy
    have l1 : xs.length = its.toArray.size := by have := rv.length; simp; omega
    have l2 : ys.length = its2.toArray.size := by have := rv2.length; simp; omega
    exact wpAny_pyNext_zipD2_end (sep_of D) (drawsB (A := X.A.in1) (I.ok.hd hc) o i1 a D.l1i1 its.toArray) (drawsB (A := X.A.in1) (I.ok.hd hc) o' i2 b D.l2i2 its2.toArray) hz hTI hTO ⟨h1, p⟩ ⟨h2, p2⟩ (by omega) (by omega) (by omega) fun h' tk hk => ⟨rfl, I.turnedL (t' := tk) (ch := [z, TI, TO, i1, i2]) (fun c o hb q =>
      hk c o (fun q' => hb (by simp [q'])) (fun q' => hb (by simp [q'])) (fun q' => hb (by simp [q'])) (fun q' => hb (by simp [q'])) q) hf⟩
  self := fun A i s Q E st h => wpAny_pyIter_zip st.1 h
def iZipB (K : PySem.W.Frag) (ta : TA) : TI := fun σ H R => ta σ H fun vs H1 => ∃ o o' a b xs ys, vs = [.ref a, .ref b] ∧ SqB K o H1 a xs ∧ SqB K o' H1 b ys ∧ R (ItzB K o o' a b) H1
theorem pi_zipB {X : Cx} {e e2 : Expr} {ta : TA} {p pos tpos : Pos} {elts : List Expr} {kk : Nat} (hg : Gl X "zip") (hm : X.mg "zip" = none) (ha : PA X [e, e2] ta)
    (hs : starEach [e, e2] X.env = (false, eval e X.env) :: starEach [e2] X.env := by rfl) (hpl : (backTo pos (starEach [e2] X.env)).any (·.1) = false := by rfl) :
    PI X (.Tuple elts kk tpos) (.Call (.Name "zip" p) [e, e2] [] pos) (iZipB X.K ta) := by
  refine ⟨fun pins s σ H R I h => ?_⟩
  refine Call_ (ld_blt I hg hm PyProof.Rows.boot_zip (PyProof.Rows.callWith_type1 (thn (ha.run pos pins s σ H _ I h) fun us s1 ⟨vs, H1, I1, r1, q1⟩ => ?_) hs hpl))
  obtain ⟨o, o', a, b, xs, ys, ex, hqx, hqy, q⟩ := q1
  subst ex
  cases r1 with
  | cons r rr =>
    cases rr with
    | cons r' rr =>
      cases rr
      cases r
      cases r'
      have fresh5 : ∀ c, c ∈ [s1.heap.objs.size + 4, s1.heap.objs.size + 2, s1.heap.objs.size + 3, s1.heap.objs.size, s1.heap.objs.size + 1] → FpOk X pins H1 c := fun c hcm => by
        have e' : c = s1.heap.objs.size + 4 ∨ c = s1.heap.objs.size + 2 ∨ c = s1.heap.objs.size + 3 ∨ c = s1.heap.objs.size ∨ c = s1.heap.objs.size + 1 := by simpa using hcm
        have hle : s1.heap.objs.size ≤ c := by
          rcases e' with z | z | z | z | z
          · rw [z]; exact Nat.le_add_right _ _
          · rw [z]; exact Nat.le_add_right _ _
          · rw [z]; exact Nat.le_add_right _ _
          · rw [z]; exact Nat.le_refl _
          · rw [z]; exact Nat.le_add_right _ _
        exact I1.fpOk hle (I1.hok.fresh hle)
      obtain ⟨its, rv, p1⟩ := sqB_inv I1 hqx
      obtain ⟨its2, rv2, p2⟩ := sqB_inv I1 hqy
      refine call_zipB p1 p2 fun h' hz hTI hTO h1 h2 hsz hk => wpAny_pyIter_zip hz ?_
      have I2 : Inv X pins σ H1 { s1 with heap := h' } := I1.kept (t' := s1.toks) hk
      exact ⟨s1.heap.objs.size + 4, [s1.heap.objs.size + 4, s1.heap.objs.size + 2, s1.heap.objs.size + 3, s1.heap.objs.size, s1.heap.objs.size + 1], _, _, H1, rfl, I2, turn_zipB (PySem.W.ktu_apart s1.heap.objs.size a b (isB_lt p1) (isB_lt p2)), ⟨hz, hTI, ⟨_, _, hTO⟩, h1, h2⟩, fresh5, q⟩
end Mp

namespace Mp
open PySem PySem.Spec
open PyProof.Rows L2
section
variable {C : Addr} {Γ : String → Option MDef} {Gs : String → Option Int} {k : Nat} {X : Cx} {p0 : Option Addr} {H0 : Hp} {G0 : GS} {H : Hp} {G : GS} {s : Strm} {env : En} {σ : L2.St}
def Itx (K : PySem.W.Frag) (o : Bool) (a : Addr) : It := if o then Itl K a else Itt K a
theorem itx_go {K : PySem.W.Frag} {o : Bool} {a : Addr} {i : Nat} {H : Hp} : (Itx K o a).go i H ↔ ∃ (xs : List V) (x : V), SqB K o H a xs ∧ xs[i]? = some x := by
  cases o <;> exact Iff.rfl
theorem itx_yld {K : PySem.W.Frag} {o : Bool} {a : Addr} {i : Nat} {H : Hp} {x : V} (h : ∀ xs, SqB K o H a xs → xs[i]? = some x) : (Itx K o a).yld i H x H := by
  cases o <;> exact ⟨rfl, h⟩
theorem itx_stop {K : PySem.W.Frag} {o : Bool} {a : Addr} {i : Nat} {H : Hp} : (Itx K o a).stop i H ↔ ∃ xs : List V, SqB K o H a xs ∧ xs.length ≤ i := by
  cases o <;> exact Iff.rfl
theorem enum_get : ∀ (ds : List D) (n i : Nat), (enumD n ds)[i]? = ds[i]?.map fun d => D.tup [.int (n + i : Nat), d]
  | [], _, _ => rfl
  | d :: ds, n, 0 => rfl
  | d :: ds, n, i + 1 => by
    show (enumD (n + 1) ds)[i]? = _
    rw [enum_get ds (n + 1) i]
    show _ = Option.map _ ds[i]?
    have e : n + 1 + i = n + (i + 1) := by omega
    rw [e]
theorem enum_len : ∀ (ds : List D) (n : Nat), (enumD n ds).length = ds.length
  | [], _ => rfl
  | _ :: ds, n => congrArg Nat.succ (enum_len ds (n + 1))
theorem enum_noOwns : ∀ (ds : List D) (n : Nat), D.noOwns (enumD n ds) = D.noOwns ds
  | [], _ => rfl
  | d :: ds, n => by
    show (D.noOwn (.tup [.int n, d]) && D.noOwns (enumD (n + 1) ds)) = (d.noOwn && D.noOwns ds)
    rw [enum_noOwns ds (n + 1)]
    show ((true && (d.noOwn && true)) && _) = _
    simp
theorem zip_get : ∀ (as bs : List D) (i : Nat) (p : D), (zipD as bs)[i]? = some p → ∃ a b, as[i]? = some a ∧ bs[i]? = some b ∧ p = .tup [a, b]
  | [], _, _, _, h => by simp [zipD] at h
  | a :: as, [], _, _, h => by simp [zipD] at h
  | a :: as, b :: bs, 0, p, h => by
    have h : some (D.tup [a, b]) = some p := h
    cases h
    exact ⟨a, b, rfl, rfl, rfl⟩
  | a :: as, b :: bs, i + 1, p, h => zip_get as bs i p h
theorem zip_len : ∀ (as bs : List D), (zipD as bs).length = min as.length bs.length
  | [], _ => by simp [zipD]
  | a :: as, [] => by simp [zipD]
  | a :: as, b :: bs => by
    show (zipD as bs).length + 1 = _
    rw [zip_len as bs, List.length_cons, List.length_cons]
    omega
theorem zip_noOwns : ∀ (as bs : List D), D.noOwns as = true → D.noOwns bs = true → D.noOwns (zipD as bs) = true
  | [], _, _, _ => rfl
  | a :: as, [], _, _ => rfl
  | a :: as, b :: bs, h, h' => by
    have h : (a.noOwn && D.noOwns as) = true := h
    have h' : (b.noOwn && D.noOwns bs) = true := h'
    simp only [Bool.and_eq_true] at h h'
    show (D.noOwn (.tup [a, b]) && D.noOwns (zipD as bs)) = true
    rw [zip_noOwns as bs h.2 h'.2]
    show ((a.noOwn && (b.noOwn && true)) && true) = true
    rw [h.1, h'.1]
    rfl
/-- a new tuple over values that stand -/
theorem rep_pair {K : PySem.W.Frag} {T : Addr} {d e : D} {x y : V} (pl : PL p0 H) (hT : H T = none) (r : Rep K C p0 H G d x []) (r' : Rep K C p0 H G e y []) : Ex H (upd H T (.tup [x, y])) ∧ Rep K C p0 (upd H T (.tup [x, y])) G (.tup [d, e]) (.ref T) [] := by
  have ne : ∀ {p o}, H p = some o → p ≠ T := fun h z => by rw [z, hT] at h; cases h
  have ev : Evo p0 H G (upd H T (.tup [x, y])) G := ⟨fun p o _ h _ => by rw [upd_ne (ne h)]; exact h, fun _ h => h⟩
  refine ⟨fun p o h => by rw [upd_ne (ne h)]; exact h, ?_⟩
  rw [Rep]
  refine ⟨T, [x, y], rfl, by unfold upd; rw [if_pos rfl], ?_⟩
  exact Reps.cons (r.evo pl ev) (Reps.cons (r'.evo pl ev) Reps.nil)
theorem yl_enum {K : PySem.W.Frag} {o : Bool} {a : Addr} {ds : List D} (h : Yl K C p0 (Itx K o a) ds H G) : Yl K C p0 (IteB K o a) (enumD 0 ds) H G := by
  have go : ∀ (i : Nat) (H2 : Hp) (G2 : GS), i < ds.length → Evo p0 H G H2 G2 → PL p0 H2 → ∃ (xs : List V) (x : V), SqB K o H2 a xs ∧ xs[i]? = some x := fun i H2 G2 hi g pl => itx_go.mp (h.1 i ds[i] H2 G2 (by simp [hi]) g pl).1
  refine ⟨fun i d H2 G2 e g pl2 => ?_, fun H2 G2 g pl2 => ?_⟩
  · rw [enum_get] at e
    cases q : ds[i]? with
    | none => rw [q] at e; cases e
    | some d' =>
      rw [q] at e
      cases e
      obtain ⟨h1, h2⟩ := h.1 i d' H2 G2 q g pl2
      refine ⟨itx_go.mp h1, fun v H3 y => ?_⟩
      obtain ⟨T, x, rfl, hT, rfl, hx⟩ := y
      obtain ⟨_, r⟩ := h2 x H2 (itx_yld hx)
      rw [Nat.zero_add]
      exact rep_pair pl2 hT int_rep r
  · obtain ⟨xs, q1, q2⟩ := itx_stop.mp (h.2 H2 G2 g pl2)
    rw [enum_len]
    exact ⟨xs, q1, q2, fun j hj => go j H2 G2 hj g pl2⟩
theorem yl_zip {K : PySem.W.Frag} {o o' : Bool} {a b : Addr} {ds es : List D} (h : Yl K C p0 (Itx K o a) ds H G) (h' : Yl K C p0 (Itx K o' b) es H G) : Yl K C p0 (ItzB K o o' a b) (zipD ds es) H G := by
  refine ⟨fun i d H2 G2 e g pl2 => ?_, fun H2 G2 g pl2 => ?_⟩
  · obtain ⟨d1, d2, e1, e2, rfl⟩ := zip_get _ _ _ _ e
    obtain ⟨h1, h2⟩ := h.1 i d1 H2 G2 e1 g pl2
    obtain ⟨h1', h2'⟩ := h'.1 i d2 H2 G2 e2 g pl2
    obtain ⟨xs, x, a1, a2⟩ := itx_go.mp h1
    obtain ⟨ys, y, b1, b2⟩ := itx_go.mp h1'
    refine ⟨⟨xs, ys, x, y, a1, b1, a2, b2⟩, fun v H3 y => ?_⟩
    obtain ⟨T, x, y, rfl, hT, rfl, hx, hy⟩ := y
    obtain ⟨_, r⟩ := h2 x H2 (itx_yld hx)
    obtain ⟨_, r'⟩ := h2' y H2 (itx_yld hy)
    exact rep_pair pl2 hT r r'
  · obtain ⟨xs, q1, q2⟩ := itx_stop.mp (h.2 H2 G2 g pl2)
    obtain ⟨ys, q3, q4⟩ := itx_stop.mp (h'.2 H2 G2 g pl2)
    rw [zip_len]
    refine ⟨xs, ys, q1, q3, by omega, fun j hj => ?_⟩
    have j1 : j < ds.length := by omega
    have j2 : j < es.length := by omega
    exact ⟨itx_go.mp (h.1 j ds[j] H2 G2 (by simp [j1]) g pl2).1, itx_go.mp (h'.1 j es[j] H2 G2 (by simp [j2]) g pl2).1⟩
/-- a sequence that is nobody's own, walked -/
theorem seq_plain {K : PySem.W.Frag} {d : D} {x : V} {fq : List Addr} {Q : List D → Strm → Prop} (pl : PL p0 H) (r : Rep K C p0 H G d x fq) (no : d.noOwn = true) (h : W (seqD d) s Q) : ∃ o a xs ds, x = .ref a ∧ Q ds s ∧ D.noOwns ds = true ∧ SqB K o H a xs ∧ Yl K C p0 (Itx K o a) ds H G := by
  unfold seqD at h
  split at h
  · rename_i ns
    rw [Rep] at r
    obtain ⟨⟨a, rfl, sc⟩, _⟩ := r
    refine ⟨true, a, _, _, rfl, h, ?_, sc.sq, ?_⟩
    · clear h sc no
      induction ns with
      | nil => rfl
      | cons n ns ih => exact ih
    refine ⟨fun i d H2 G2 e g pl2 => ?_, fun H2 G2 g _ => ?_⟩
    all_goals
      have sq : SqL K H2 a (ns.map V.int) := by
        rcases sc with ⟨o, q⟩ | q
        · exact .inl (.inr ⟨o, g.keep _ _ (pl.ne q fun _ z => by cases z) q (.inr fun _ z => by cases z)⟩)
        · exact .inr q
    · rw [List.getElem?_map] at e
      cases q : ns[i]? with
      | none => rw [q] at e; cases e
      | some z =>
        rw [q] at e
        cases e
        have e1 : (ns.map V.int)[i]? = some (V.int z) := by rw [List.getElem?_map, q] <;> rfl
        refine ⟨⟨_, _, sq, e1⟩, fun x H3 y => ?_⟩
        obtain ⟨rfl, y⟩ := y
        have := y _ sq
        rw [e1] at this
        cases this
        exact ⟨Ex.rfl', int_rep⟩
    · exact ⟨_, sq, by simp⟩
  · obtain ⟨a, vs, rfl, e1, r1⟩ := tup_of r
    have := r1.noOwn no
    subst this
    exact ⟨false, a, vs, _, rfl, h, no, SqT.of e1, yl_tup pl e1 r1⟩
  · rename_i o ds
    rw [Rep] at r
    obtain ⟨a, vs, f2, rfl, e1, np, r1, q3⟩ := r
    have no : (!o && D.noOwns ds) = true := no
    simp only [Bool.and_eq_true, Bool.not_eq_true'] at no
    have := r1.noOwn no.2
    subst this
    rcases q3 with ⟨z, _, _⟩ | ⟨_, b, c, _⟩
    · rw [no.1] at z; cases z
    · exact ⟨true, a, vs, _, rfl, h, no.2, SqL.of e1, yl_list pl e1 np b r1⟩
  · exact h.elim
theorem si_enum (g : Gd C Γ Gs k X) {elts : List Expr} {kk : Nat} {tpos pos : Pos} {e : Expr} {m : ME} {p1 : Pos} (ha : SE C Γ k X .v m e) (hg : Gl X "enumerate") (hs : starEach [e] X.env = [(false, eval e X.env)]) : SI C Γ k X (.Tuple elts kk tpos) (.enum m) (.Call (.Name "enumerate" p1) [e] [] pos) := by
  obtain ⟨t, a1, a2⟩ := ha
  refine ⟨_, pi_enumB hg (g.wd.free _ (by decide)) (pa_cons a1 pa_nil (by rw [hs] <;> rfl)) hs, fun p0 H0 G0 H G s env σ R x h => ?_⟩
  rw [items] at h
  refine a2 p0 H0 G0 H G s env σ _ x (W_mono (W_bind.mp h) fun d s1 q H1 G1 v fp g1 x1 r1 z1 => ?_)
  obtain ⟨n, f⟩ := z1 rfl
  obtain ⟨a, rfl, hh⟩ := seq_sem (R := fun J H' => ∀ a, (J = Itl X.K a → R (IteB X.K true a) H') ∧ (J = Itt X.K a → R (IteB X.K false a) H')) x g1 x1 r1 n f (W_mono (W_seqD (W_bind.mp q)) fun ds s' qq => by
    obtain ⟨q0, qq⟩ := qq
    subst q0
    obtain ⟨q1, q2⟩ := W_pure.mp qq
    rw [enum_noOwns] at q1
    refine ⟨rfl, q1, fun G2 J g x2 y a => ⟨fun z => ?_, fun z => ?_⟩⟩
    · subst z
      exact q2 H1 G2 _ g x2 (yl_enum (o := true) y)
    · subst z
      exact q2 H1 G2 _ g x2 (yl_enum (o := false) y))
  rcases hh with ⟨⟨xs, h1⟩, h2⟩ | ⟨⟨xs, h1⟩, h2⟩
  · exact ⟨true, a, xs, rfl, h1, (h2 a).1 rfl⟩
  · exact ⟨false, a, xs, rfl, h1, (h2 a).2 rfl⟩
theorem si_zip (g : Gd C Γ Gs k X) {elts : List Expr} {kk : Nat} {tpos pos : Pos} {e e' : Expr} {m m' : ME} {p1 : Pos} (ha : SE C Γ k X .v m e) (hb : SE C Γ k X .v m' e') (hg : Gl X "zip") (hs : starEach [e, e'] X.env = [(false, eval e X.env), (false, eval e' X.env)]) (hs2 : starEach [e'] X.env = [(false, eval e' X.env)]) :
    SI C Γ k X (.Tuple elts kk tpos) (.zip m m') (.Call (.Name "zip" p1) [e, e'] [] pos) := by
  obtain ⟨ta, tb, a1, b1, h2⟩ := two_p ha hb
  refine ⟨_, pi_zipB hg (g.wd.free _ (by decide)) (pa_cons a1 (pa_cons b1 pa_nil (by rw [hs2] <;> rfl)) (by rw [hs, hs2])) (by rw [hs, hs2]) (by rw [hs2] <;> rfl), fun p0 H0 G0 H G s env σ R x h => ?_⟩
  rw [items] at h
  refine h2 p0 H0 G0 H G s env σ _ x (W_mono (W_bind.mp h) fun dx s1 q => W_mono (W_bind.mp q) fun dy s2 q H2 G2 x y fa fb g x2 r1 _ r2 => ?_)
  obtain ⟨⟨n1, n2⟩, q⟩ := W_guard.mp (W_bind.mp q)
  obtain ⟨o, a, xs, ds, rfl, q, no1, sq1, y1⟩ := seq_plain x2.pl r1 n1 (W_bind.mp q)
  obtain ⟨o', b, ys, es, rfl, q, no2, sq2, y2⟩ := seq_plain x2.pl r2 n2 (W_bind.mp q)
  obtain ⟨_, q2⟩ := W_pure.mp q
  exact ⟨o, o', a, b, xs, ys, rfl, sq1, sq2, q2 H2 G2 _ g x2 (yl_zip y1 y2)⟩
end
end Mp

namespace Mp
open PySem PySem.Spec
open PyProof.Rows L2
section
variable {C : Addr} {Γ : String → Option MDef} {Gs : String → Option Int} {k : Nat} {X : Cx} {p0 : Option Addr} {H H1 H2 H' H0 : Hp} {G G1 G2 G' G0 : GS} {s s2 s' : Strm} {env : En} {σ : L2.St} {Q : VK} {d : D} {v : V} {fp : List Addr} {st : Bool}
variable {p : Md} {pos pos' : Pos} {j : Nat}
/-! ### the evaluator's own reading -/
def tEv (K : PySem.W.Frag) (C : Addr) (Γ : String → Option MDef) (k : Nat) (p : Md) (m : ME) : TE := fun σ H Q => ∃ (p0 : Option Addr) (H0 : Hp) (G0 G : GS) (s : Strm) (env : En), StX K C p0 H0 G0 H G s env σ ∧
  W (ev (callF Γ k) env p m) s fun d s' => ∀ H' G' v fp, Grow p0 H G H' G' → StX K C p0 H0 G0 H' G' s' env σ → Rep K C p0 H' G' d v fp → (strict p m = true → fp.Nodup ∧ ∀ a ∈ fp, H a = none) → Q v H'
def tTs (K : PySem.W.Frag) (C : Addr) (Γ : String → Option MDef) (k : Nat) (m : ME) : TT := fun σ H Q => ∃ (p0 : Option Addr) (H0 : Hp) (G0 G : GS) (s : Strm) (env : En), StX K C p0 H0 G0 H G s env σ ∧
  W (tru (ev (callF Γ k) env .t m)) s fun b s' => ∀ H' G', Grow p0 H G H' G' → StX K C p0 H0 G0 H' G' s' env σ → Q b H'
theorem SE.canon {m : ME} {e : Expr} (h : SE C Γ k X p m e) : PE X e (tEv X.K C Γ k p m) := by
  obtain ⟨t, a, b⟩ := h
  exact ⟨fun pins s σ H Q I ⟨p0, H0, G0, G, st, env, x, w⟩ => a.run pins s σ H Q I (b p0 H0 G0 H G st env σ Q x w)⟩
theorem ST.canon {m : ME} {e : Expr} (h : ST C Γ k X m e) : PT X e (tTs X.K C Γ k m) := by
  obtain ⟨t, a, b⟩ := h
  exact ⟨fun pins s σ H Q I ⟨p0, H0, G0, G, st, env, x, w⟩ => a.run pins s σ H Q I (b p0 H0 G0 H G st env σ Q x w)⟩
/-! ### forgotten slots -/
theorem RepE.wipe {K : PySem.W.Frag} : ∀ (is : List Nat) {env : En} {σ : L2.St} {fp : List Addr}, RepE K C p0 H G env σ fp → fp.Nodup → ∃ fq, RepE K C p0 H G (wipeE env is) (L2.wipe σ is) fq ∧ fq.Nodup ∧ ∀ a ∈ fq, a ∈ fp
  | [], env, σ, fp, r, n => ⟨fp, r, n, fun _ h => h⟩
  | i :: is, env, σ, fp, r, n => by
    obtain ⟨fq, a, b, c⟩ := RepE.wipe is r n
    obtain ⟨fr, d1, d2, d3, d4⟩ := RepE.forget i a b
    exact ⟨fr, d2, d3, fun x hx => c x (d4 x hx)⟩
theorem RepE.kill {K : PySem.W.Frag} : ∀ (is : List Nat) {env : En} {σ : L2.St} {fp : List Addr}, RepE K C p0 H G env σ fp → fp.Nodup → ∃ fq, RepE K C p0 H G (wipeE env is) σ fq ∧ fq.Nodup ∧ ∀ a ∈ fq, a ∈ fp
  | [], env, σ, fp, r, n => ⟨fp, r, n, fun _ h => h⟩
  | i :: is, env, σ, fp, r, n => by
    obtain ⟨fq, a, b, c⟩ := RepE.kill is r n
    obtain ⟨fr, d1, d2, d3, d4⟩ := RepE.forget i a b
    exact ⟨fr, d1, d3, fun x hx => c x (d4 x hx)⟩
theorem wipe_get {σ : L2.St} {j : Nat} : ∀ {l : List Nat}, (L2.wipe σ l)[j]? = if j ∈ l then σ[j]?.map (fun _ => none) else σ[j]?
  | [] => by simp [L2.wipe]
  | v :: vs => by
    unfold L2.wipe
    have ih := wipe_get (σ := σ) (j := j) (l := vs)
    by_cases hv : v = j
    · subst hv
      rw [if_pos List.mem_cons_self]
      by_cases hl : v < (L2.wipe σ vs).length
      · rw [List.getElem?_set_self hl]
        rw [wipe_length] at hl
        rw [List.getElem?_eq_getElem hl] <;> rfl
      · have hl' : ¬ v < σ.length := by rw [wipe_length] at hl; exact hl
        rw [List.getElem?_eq_none (by simpa using hl), List.getElem?_eq_none (by simpa using hl')] <;> rfl
    · rw [List.getElem?_set_ne hv, ih]
      by_cases hm : j ∈ vs
      · rw [if_pos hm, if_pos (List.mem_cons_of_mem _ hm)]
      · rw [if_neg hm, if_neg (by simp only [List.mem_cons, not_or]; exact ⟨fun e => hv e.symm, hm⟩)]
theorem wipe_idem {σ : L2.St} {l : List Nat} : L2.wipe (L2.wipe σ l) l = L2.wipe σ l := by
  apply List.ext_getElem?
  intro j
  rw [wipe_get]
  by_cases h : j ∈ l
  · rw [if_pos h, wipe_get, if_pos h]
    cases σ[j]? <;> rfl
  · rw [if_neg h]
theorem wipe_set {σ : L2.St} {l : List Nat} {i : Nat} {x : Option V} (h : i ∈ l) : L2.wipe (σ.set i x) l = L2.wipe σ l := by
  apply List.ext_getElem?
  intro j
  rw [wipe_get, wipe_get]
  by_cases hj : j ∈ l
  · rw [if_pos hj, if_pos hj]
    by_cases hi : i = j
    · subst hi
      by_cases hl : i < σ.length
      · rw [List.getElem?_set_self hl, List.getElem?_eq_getElem hl] <;> rfl
      · rw [List.getElem?_eq_none (by simpa using hl), List.getElem?_eq_none (by simpa using hl)]
    · rw [List.getElem?_set_ne hi]
  · rw [if_neg hj, if_neg hj, List.getElem?_set_ne (fun e : i = j => hj (by rw [← e]; exact h))]
theorem gNs_wipe {l : List Nat} : ∀ (is : List Nat) {vs : List V} {σ : L2.St} {Q : L2.St → Hp → Prop}, (∀ i ∈ is, i ∈ l) → gNs is vs σ H Q → gNs is vs σ H fun σ' H' => L2.wipe σ' l = L2.wipe σ l ∧ Q σ' H'
  | [], _, _, _, _, h => ⟨h.1, rfl, h.2⟩
  | i :: is, vs, σ, Q, m, h => by
    obtain ⟨v, r, e, h⟩ := h
    refine ⟨v, r, e, ?_⟩
    have h : gNs is r (σ.set i (some v)) H fun σ' H' => Q σ' H' := h
    have := gNs_wipe is (fun i hi => m i (List.mem_cons_of_mem _ hi)) h
    rw [wipe_set (m i List.mem_cons_self)] at this
    exact this
theorem gT_wipe {K : PySem.W.Frag} {t : Tg} {Q : L2.St → Hp → Prop} (h : gT K t v σ H Q) : gT K t v σ H fun σ' H' => L2.wipe σ' t.slots = L2.wipe σ t.slots ∧ Q σ' H' := by
  cases t with
  | nm i => exact ⟨wipe_set (List.mem_singleton.mpr rfl), h⟩
  | tup is =>
    rcases h with ⟨a, xs, e, h1, h2, h3⟩ | ⟨a, xs, e, h1, h2, h3⟩
    · exact .inl ⟨a, xs, e, h1, h2, gNs_wipe is (fun _ h => h) h3⟩
    · exact .inr ⟨a, xs, e, h1, h2, gNs_wipe is (fun _ h => h) h3⟩
/-! ### a list that is being made: its maker's own, in no slot -/
theorem StAt.wrt {D0 : Addr} {xs ys : List V} (x : StAt p0 H G s) (hD : H D0 = some (.lst xs)) (np : some D0 ≠ p0) (hG : ¬ G D0) : StAt p0 (upd H D0 (.lst ys)) G s := fun p hp => by
  obtain ⟨pc, a, b, c, d, f⟩ := x p hp
  exact ⟨pc, by rw [upd_ne fun z => np (by rw [← z, hp])]; exact a, by rw [upd_ne (fun z : pc = D0 => hG (by rw [← z]; exact d))]; exact b, c, d, f⟩
theorem gs_wrt {D0 : Addr} {xs ys : List V} (x : ∀ p, G p → some p ≠ p0 ∧ ∃ o, H p = some o) (hD : H D0 = some (.lst xs)) : ∀ p, G p → some p ≠ p0 ∧ ∃ o, (upd H D0 (.lst ys)) p = some o := fun p hp => by
  obtain ⟨a, o, b⟩ := x p hp
  refine ⟨a, ?_⟩
  by_cases z : p = D0
  · subst z; exact ⟨_, upd_same⟩
  · exact ⟨o, by rw [upd_ne z]; exact b⟩
/-- a write at what is new since H -/
theorem Grow.wrt {D0 : Addr} {ys : List V} (g : Grow p0 H G H' G') (hD : H D0 = none) : Grow p0 H G (upd H' D0 (.lst ys)) G' :=
  ⟨fun p o n h => by rw [upd_ne fun z => by rw [z, hD] at h; cases h]; exact g.keep p o n h, g.gs, g.new, fun p x xs e h => by
    obtain ⟨zs, q⟩ := g.hd p x xs e h
    exact ⟨zs, by rw [upd_ne fun z => by rw [z, hD] at h; cases h]; exact q⟩⟩
structure LcI (K : PySem.W.Frag) (C : Addr) (p0 : Option Addr) (H0 : Hp) (G0 : GS) (Hs : Hp) (Gs0 : GS) (env : En) (σ : L2.St) (fe : List Addr) (D0 : Addr) (f : D → M (Option D)) (ds : List D) (R : List D → Strm → Prop) (i : Nat) (H : Hp) : Prop where
  ex : ∃ (G : GS) (s : Strm) (rs : List D) (acc : List V) (fq : List Addr), Grow p0 Hs Gs0 H G ∧ StAt p0 H G s ∧ (∀ p, G p → some p ≠ p0 ∧ ∃ o, H p = some o) ∧ RepE K C p0 H G env σ fe ∧ H D0 = some (.lst acc) ∧ ¬ G D0 ∧ Reps K C p0 H G rs acc fq ∧ fq.Nodup ∧ D0 ∉ fq ∧ (∀ a ∈ fq, Hs a = none) ∧ rs.length ≤ i ∧
    W (lcD f (ds.drop i)) s fun rs' s' => R (rs ++ rs') s'
/-- what is made of an item -/
def elemF (Γ : String → Option MDef) (k : Nat) (env : En) (t : Tg) (c e : ME) (d : D) : M (Option D) := do
  let env' ← asgT t d (wipeE env t.slots)
  let b ← (if isNop c then pure true else tru (ev (callF Γ k) env' .t c))
  if b then do let r ← ev (callF Γ k) env' .v e; pure (some r) else pure none
/-- a clause's test -/
def tCond (K : PySem.W.Frag) (C : Addr) (Γ : String → Option MDef) (k : Nat) (c : ME) : TT := if isNop c then tYes else tTs K C Γ k c
theorem lc_turn {t : Tg} {c e : ME} {ds : List D} {Hs : Hp} {Gs0 : GS} {fe : List Addr} {D0 : Addr} {R : List D → Strm → Prop} {i : Nat} {H3 : Hp} {x : V} (x0 : StX X.K C p0 H0 G0 Hs Gs0 s env σ) (fen : fe.Nodup) (fe0 : ∀ a ∈ fe, H0 a = none) (feS : ∀ a ∈ fe, ∃ o, Hs a = some o)
    (hDs : Hs D0 = none) (npD : some D0 ≠ p0) (hi : ds[i]? = some d) (hlen : ds.length ≤ LIM)
    (I : LcI X.K C p0 H0 G0 Hs Gs0 env σ fe D0 (elemF Γ k env t c e) ds R i H) (ex : Ex H H3) (rx : ∀ G, Grow p0 Hs Gs0 H G → Rep X.K C p0 H3 G d x []) :
    gT X.K t x (L2.wipe σ t.slots) H3 fun σ2 H2 => L2.wipe σ2 t.slots = L2.wipe σ t.slots ∧ tCond X.K C Γ k c σ2 H2 fun b H3 =>
      if b = true then tEv X.K C Γ k .v e σ2 H3 fun y H4 => ∃ acc, H4 D0 = some (.lst acc) ∧ acc.length < sizeLine ∧ LcI X.K C p0 H0 G0 Hs Gs0 env σ fe D0 (elemF Γ k env t c e) ds R (i + 1) (upd H4 D0 (.lst (acc ++ [y])))
      else LcI X.K C p0 H0 G0 Hs Gs0 env σ fe D0 (elemF Γ k env t c e) ds R (i + 1) H3 := by
  obtain ⟨G, st, rs, acc, fq, g, sa, gs, re, hD, nG, ra, nq, nDq, fr, hl, w⟩ := I.ex
  have il : i < ds.length := (List.getElem?_eq_some_iff.mp hi).1
  have ed : ds[i] = d := (List.getElem?_eq_some_iff.mp hi).2
  rw [List.drop_eq_getElem_cons il, ed] at w
  have w := W_bind.mp (show W (elemF Γ k env t c e d >>= _) st _ from w)
  -- the state beside the new pair
  have g3 : Grow p0 Hs Gs0 H3 G := g.trans (grow_ex ex)
  have sa3 : StAt p0 H3 G st := fun p hp => let ⟨pc, a, b, c, d, f⟩ := sa p hp; ⟨pc, ex _ _ a, ex _ _ b, c, d, f⟩
  have gs3 : ∀ p, G p → some p ≠ p0 ∧ ∃ o, H3 p = some o := fun p hp => let ⟨a, o, b⟩ := gs p hp; ⟨a, o, ex _ _ b⟩
  have re3 := re.grow sa.pl (grow_ex (G := G) ex)
  have ra3 := ra.grow sa.pl (grow_ex (G := G) ex)
  have hD3 := ex _ _ hD
  have x3 : StX X.K C p0 H0 G0 H3 G st env σ := ⟨x0.grow.trans g3, sa3, gs3, fe, re3, fen, fe0⟩
  obtain ⟨fw, w1, w2, w3⟩ := RepE.wipe t.slots re3 fen
  have rx := rx G g
  have w := W_bind.mp (show W (do
      let env' ← asgT t d (wipeE env t.slots)
      let b ← (if isNop c then pure true else tru (ev (callF Γ k) env' .t c))
      if b then do let r ← ev (callF Γ k) env' .v e; pure (some r) else pure none : M (Option D)) st _ from w)
  have key := tg_sem (X := X) t (Q := fun σ2 H2 => tCond X.K C Γ k c σ2 H2 fun b H3 =>
      if b = true then tEv X.K C Γ k .v e σ2 H3 fun y H4 => ∃ acc, H4 D0 = some (.lst acc) ∧ acc.length < sizeLine ∧ LcI X.K C p0 H0 G0 Hs Gs0 env σ fe D0 (elemF Γ k env t c e) ds R (i + 1) (upd H4 D0 (.lst (acc ++ [y])))
      else LcI X.K C p0 H0 G0 Hs Gs0 env σ fe D0 (elemF Γ k env t c e) ds R (i + 1) H3) (d := d) (v := x) (H := H3) (G := G) (H0 := H0) (env := wipeE env t.slots) (σ := L2.wipe σ t.slots) (s := st)
    ⟨fw, [], w1, (Reps.cons rx Reps.nil : Reps X.K C p0 H3 G [d] [x] ([] ++ [])), by simpa using w2, by simpa using fun a ha => fe0 a (w3 a ha)⟩ w ?_
  · have := gT_wipe key
    rw [wipe_idem] at this
    exact this
  intro env' σ' hR ⟨fe', r1, n1, f1⟩
  have x4 : StX X.K C p0 H0 G0 H3 G st env' σ' := ⟨x0.grow.trans g3, sa3, gs3, fe', r1, n1, f1⟩
  have nDe : D0 ∉ fe := fun z => by
    obtain ⟨o, q⟩ := feS D0 z
    rw [hDs] at q
    cases q
  have cont : ∀ (b : Bool) (H5 : Hp) (G5 : GS) (s5 : Strm), Grow p0 H3 G H5 G5 → StX X.K C p0 H0 G0 H5 G5 s5 env' σ' →
      W (if b then do let r ← ev (callF Γ k) env' .v e; pure (some r) else pure none : M (Option D)) s5 (fun r s' => W (lcD (elemF Γ k env t c e) (ds.drop (i + 1)) >>= fun qs => match r with | some y => pure (y :: qs) | none => pure qs) s' fun rs' s'' => R (rs ++ rs') s'') →
      (if b = true then tEv X.K C Γ k .v e σ' H5 fun y H4 => ∃ acc, H4 D0 = some (.lst acc) ∧ acc.length < sizeLine ∧ LcI X.K C p0 H0 G0 Hs Gs0 env σ fe D0 (elemF Γ k env t c e) ds R (i + 1) (upd H4 D0 (.lst (acc ++ [y])))
      else LcI X.K C p0 H0 G0 Hs Gs0 env σ fe D0 (elemF Γ k env t c e) ds R (i + 1) H5) := by
    intro b H5 G5 s5 g5 x5 w5
    have pl3 : PL p0 H3 := sa3.pl
    cases b with
    | false =>
      refine ite2 (fun z => by cases z) fun _ => ⟨⟨G5, s5, rs, acc, fq, g3.trans g5, x5.strm, x5.gs, re3.grow pl3 g5, g5.keep _ _ npD hD3, fun z => nG (g5.new _ _ npD z hD3), ra3.grow pl3 g5, nq, nDq, fr, Nat.le_succ_of_le hl, ?_⟩⟩
      have w5 := W_bind.mp (show W (lcD (elemF Γ k env t c e) (ds.drop (i + 1)) >>= fun qs => pure qs) s5 _ from w5)
      exact w5
    | true =>
      refine ite2 (fun _ => ?_) fun z => absurd rfl z
      have w5 := W_bind.mp (show W (ev (callF Γ k) env' .v e >>= fun r => pure (some r)) s5 _ from w5)
      refine ⟨p0, H0, G0, G5, s5, env', x5, W_mono w5 fun r s6 q H6 G6 v f6 g6 x6 r6 z6 => ?_⟩
      obtain ⟨n6, fr6⟩ := z6 rfl
      have g36 := g5.trans g6
      have hD6 := g36.keep _ _ npD hD3
      have nG6 : ¬ G6 D0 := fun z => nG (g36.new _ _ npD z hD3)
      have nD6 : D0 ∉ f6 := fun z => by
        have := fr6 D0 z
        rw [g5.keep _ _ npD hD3] at this
        cases this
      refine ⟨acc, hD6, ?_, ⟨G6, s6, rs ++ [r], acc ++ [v], fq ++ (f6 ++ []), (g3.trans g36).wrt hDs, x6.strm.wrt hD6 npD nG6, gs_wrt x6.gs hD6, RepE.wrtAll hD6 nG6 (re3.grow pl3 g36) nDe, upd_same, nG6, ?_, ?_, ?_, ?_, ?_, ?_⟩⟩
      · rw [← ra.length]
        exact lim_size' (Nat.lt_of_le_of_lt hl (Nat.lt_of_lt_of_le il hlen))
      · exact Reps.append (Reps.wrt hD6 nG6 (ra3.grow pl3 g36) nDq) (Reps.cons (Rep.wrt hD6 nG6 r6 nD6) Reps.nil)
      · rw [List.append_nil]
        refine nodup_app.mpr ⟨nq, n6, fun a h1 h2 => ?_⟩
        obtain ⟨_, np, xs, e⟩ := ra3.mem a h1
        have := fr6 a h2
        rw [g5.keep _ _ np e] at this
        cases this
      · rw [List.append_nil]
        exact fun z => (List.mem_append.mp z).elim nDq nD6
      · intro a ha
        rw [List.append_nil] at ha
        rcases List.mem_append.mp ha with h | h
        · exact fr a h
        · exact grow_none (g3.trans g5) x5.pl (fr6 a h)
      · rw [List.length_append]
        exact Nat.succ_le_succ hl
      · have q := W_bind.mp (show W (lcD (elemF Γ k env t c e) (ds.drop (i + 1)) >>= fun qs => pure (r :: qs)) s6 _ from q)
        refine W_mono q fun qs s7 q => ?_
        have q : R (rs ++ (r :: qs)) s7 := q
        rw [List.append_assoc]
        exact q
  have hR := W_bind.mp hR
  unfold tCond
  cases hc : isNop c with
  | true =>
    rw [hc] at hR
    exact cont true H3 G st Grow.rfl' x4 hR
  | false =>
    rw [hc] at hR
    exact ⟨p0, H0, G0, G, st, env', x4, W_mono (show W (tru (ev (callF Γ k) env' .t c)) st _ from hR) fun b s5 q H5 G5 g5 x5 => cont b H5 G5 s5 g5 x5 q⟩
/-- [e for t in it if c] -/
theorem se_lc (g : Gd C Γ Gs k X) {t : Tg} {m : MI} {c e : ME} {elt tg iter : Expr} {ifs : List Expr} {scope : Scope} {own : List (Str × Nat)} (hi : SI C Γ k X tg m iter) (ok : BlkOk X.N X.env.scope scope own) (ho : own.map (·.2) = t.slots)
    (hg : ∀ (s : Shared) (H : Hp) (C' : Addr) (cl : List (Str × Addr)) (fp : List Addr), PG (X.blk s H scope (compEnvC scope cl C' X.env) fp) tg (gT X.K t)) (ht : ∀ (s : Shared) (H : Hp) (C' : Addr) (cl : List (Str × Addr)) (fp : List Addr), PTs (X.blk s H scope (compEnvC scope cl C' X.env) fp) ifs (tCond X.K C Γ k c))
    (he : ∀ (s : Shared) (H : Hp) (C' : Addr) (cl : List (Str × Addr)) (fp : List Addr), SE C Γ k (X.blk s H scope (compEnvC scope cl C' X.env) fp) .v e elt) (hs : ∀ x, foldedSetIterable iter X.env x = pure x) :
    SE C Γ k X p (.lc t m c e) (.ListComp elt [⟨tg, iter, ifs, 0⟩] scope pos) ∧
      (∀ {i : Nat} {y : Str} {py spos : Pos}, X.N[i]? = some y → X.env.scope.names.lookup y = some .local → swapsWith (.ListComp elt [⟨tg, iter, ifs, 0⟩] scope pos) (some (.Name y py)) spos.line X.env = pure true →
        ∃ te, PS X (.Assign [.Name y py] (.ListComp elt [⟨tg, iter, ifs, 0⟩] scope pos) spos) (tAsg te (gName i)) ∧ ∀ (p0 : Option Addr) (H0 : Hp) (G0 : GS) (H : Hp) (G : GS) (s : Strm) (env : En) (σ : L2.St) (Q : VK), StX X.K C p0 H0 G0 H G s env σ →
          W (ev (callF Γ k) env .v (.lc t m c e)) s (Post C X p0 true H0 G0 H G env σ Q) → te σ H Q) := by
  obtain ⟨wi, i1, i2⟩ := hi
  have sem : ∀ (p' : Md) (p0 : Option Addr) (H0 : Hp) (G0 : GS) (H : Hp) (G : GS) (s : Strm) (env : En) (σ : L2.St) (Q : VK), StX X.K C p0 H0 G0 H G s env σ →
          W (ev (callF Γ k) env p' (.lc t m c e)) s (Post C X p0 true H0 G0 H G env σ Q) → tLc wi (gT X.K t) (tCond X.K C Γ k c) (tEv X.K C Γ k .v e) (own.map (·.2)) σ H Q := by
    intro p' p0 H0 G0 H G s env σ Q x h
    rw [ho]
    rw [ev] at h
    refine i2 p0 H0 G0 H G s env σ _ x (W_mono (W_bind.mp h) fun ds s1 q => ?_)
    obtain ⟨⟨c1, c2⟩, q⟩ := W_guard.mp (W_bind.mp q)
    have q := W_bind.mp (show W (lcD (elemF Γ k env t c e) ds >>= fun rs => pure (D.lst true rs)) s1 _ from q)
    refine ⟨c2, fun H1 G1 J g1 x1 yl D0 hD => ?_⟩
    obtain ⟨fe, re, fen, fe0⟩ := x.env
    have re1 := re.grow x.pl g1
    have npD : some D0 ≠ p0 := ne_p0 x1.pl hD
    have feS : ∀ a ∈ fe, ∃ o, H1 a = some o := fun a ha => let ⟨_, _, xs, z⟩ := re1.mem a ha; ⟨_, z⟩
    have nG1 : ¬ G1 D0 := fun z => by
      obtain ⟨_, o, z⟩ := x1.gs D0 z
      rw [hD] at z
      cases z
    have eD := ex_upd (H := H1) (o := .lst []) hD
    have x1' : StX X.K C p0 H0 G0 H1 G1 s1 env σ := ⟨x1.grow, x1.strm, x1.gs, fe, re1, fen, fe0⟩
    refine ⟨fun i mm Hi => mm = ds.length - i ∧ i ≤ ds.length ∧ LcI X.K C p0 H0 G0 H1 G1 env σ fe D0 (elemF Γ k env t c e) ds (fun rs s' => Post C X p0 true H0 G0 H G env σ Q (.lst true rs) s') i Hi, ⟨ds.length, by simp, Nat.zero_le _, ⟨G1, s1, [], [], [], grow_ex eD, (x1.ex' eD).strm, (x1.ex' eD).gs, re1.grow x1.pl (grow_ex eD), upd_same, nG1, Reps.nil, .nil, by simp, by simp, Nat.le_refl _, ?_⟩⟩, ?_⟩
    · exact W_mono q fun rs s2 q => q
    · rintro i mm H' ⟨rfl, hle, I⟩
      obtain ⟨G', st, rs, acc, fq, g', sa, gs, re', hD', nG', ra, nq, nDq, fr, hl, w⟩ := I.ex
      by_cases hlt : i < ds.length
      · obtain ⟨go, yld⟩ := yl.1 i ds[i] H' G' (List.getElem?_eq_getElem hlt) g'.evo sa.pl
        refine .inr ⟨go, fun H'' => LcI X.K C p0 H0 G0 H1 G1 env σ fe D0 (elemF Γ k env t c e) ds (fun rs s' => Post C X p0 true H0 G0 H G env σ Q (.lst true rs) s') (i + 1) H'', fun H'' n => ⟨ds.length - (i + 1), by omega, rfl, hlt, n⟩, fun y H3 hy => ?_⟩
        obtain ⟨ex, _⟩ := yld y H3 hy
        exact lc_turn x1' fen fe0 feS hD npD (List.getElem?_eq_getElem hlt) c1 I ex fun G2 g2 => ((yl.1 i ds[i] H' G2 (List.getElem?_eq_getElem hlt) g2.evo sa.pl).2 y H3 hy).2
      · have e : i = ds.length := by omega
        subst e
        refine .inl ⟨yl.2 H' G' g'.evo sa.pl, ?_⟩
        rw [List.drop_length] at w
        have w : Post C X p0 true H0 G0 H G env σ Q (.lst true (rs ++ [])) st := w
        rw [List.append_nil] at w
        refine w H' G' (.ref D0) (D0 :: fq) (g1.trans g') ⟨x1.grow.trans g', sa, gs, fe, re', fen, fe0⟩ ?_ fun _ => ⟨List.nodup_cons.mpr ⟨nDq, nq⟩, fun a ha => ?_⟩
        · rw [Rep]
          exact ⟨D0, acc, fq, rfl, hD', npD, ra, .inl ⟨rfl, nG', rfl⟩⟩
        · rcases List.mem_cons.mp ha with rfl | ha
          · exact grow_none g1 x1.pl hD
          · exact grow_none g1 x1.pl (fr a ha)
  refine ⟨⟨_, pe_lc g.calm g.nd i1 ok hg ht (fun s H C' cl fp => show PE _ elt (tEv X.K C Γ k .v e) from (he s H C' cl fp).canon) hs, fun p0 H0 G0 H G s env σ Q x h => ?_⟩, fun {i y py spos} hN hl hsw => ⟨_, ps_setLc g.calm g.nd hN hl hsw i1 ok hg ht (fun s H C' cl fp => show PE _ elt (tEv X.K C Γ k .v e) from (he s H C' cl fp).canon) hs, fun p0 H0 G0 H G s env σ Q x h => sem .v p0 H0 G0 H G s env σ Q x h⟩⟩
  have e : strict p (.lc t m c e) = true := by cases p <;> rfl
  rw [e] at h
  exact sem p p0 H0 G0 H G s env σ Q x h
end
end Mp

namespace Mp
open PySem PySem.Spec
open PyProof.Rows L2
section
variable {C : Addr} {Γ : String → Option MDef} {Gs : String → Option Int} {k : Nat} {X : Cx} {p0 : Option Addr} {H H1 H2 H' H0 : Hp} {G G1 G2 G' G0 : GS} {s s2 s' : Strm} {env : En} {σ : L2.St} {d : D} {v : V} {fp : List Addr} {st : Bool}
variable {p : Md} {pos pos' : Pos} {j : Nat}
def PostS (C : Addr) (X : Cx) (p0 : Option Addr) (H0 : Hp) (G0 : GS) (H : Hp) (G : GS) (Q : Ends) : Fl → Strm → Prop
  | .nx env', s' => ∀ H' G' σ', Evo p0 H G H' G' → StX X.K C p0 H0 G0 H' G' s' env' σ' → Q.nx σ' H'
  | .brk env', s' => ∀ H' G' σ', Evo p0 H G H' G' → StX X.K C p0 H0 G0 H' G' s' env' σ' → Q.bk σ' H'
  | .cont env', s' => ∀ H' G' σ', Evo p0 H G H' G' → StX X.K C p0 H0 G0 H' G' s' env' σ' → Q.ct σ' H'
  | .ret d, s' => ∀ H' G' v fp, Grow p0 H0 G0 H' G' → StAt p0 H' G' s' → (∀ p, G' p → some p ≠ p0 ∧ ∃ o, H' p = some o) → Rep X.K C p0 H' G' d v fp → fp.Nodup → (∀ a ∈ fp, H0 a = none) → Q.rt v H'
def SS (C : Addr) (Γ : String → Option MDef) (k : Nat) (X : Cx) (m : MS) (e : Stmt) : Prop := ∃ t, PS X e t ∧ ∀ (p0 : Option Addr) (H0 : Hp) (G0 : GS) (H : Hp) (G : GS) (s : Strm) (env : En) (σ : L2.St) (Q : Ends), StX X.K C p0 H0 G0 H G s env σ →
  W (run (callF Γ k) env m) s (PostS C X p0 H0 G0 H G Q) → t Q σ H
def SSs (C : Addr) (Γ : String → Option MDef) (k : Nat) (X : Cx) (m : MSs) (es : List Stmt) : Prop := ∃ t, PSs X es t ∧ ∀ (p0 : Option Addr) (H0 : Hp) (G0 : GS) (H : Hp) (G : GS) (s : Strm) (env : En) (σ : L2.St) (Q : Ends), StX X.K C p0 H0 G0 H G s env σ →
  W (runs (callF Γ k) env m) s (PostS C X p0 H0 G0 H G Q) → t Q σ H
theorem PostS.evo {Q : Ends} {r : Fl} (e : Evo p0 H G H1 G1) (h : PostS C X p0 H0 G0 H G Q r s) : PostS C X p0 H0 G0 H1 G1 Q r s := by
  cases r with
  | nx env' => exact fun H' G' σ' e' x => h H' G' σ' (e.trans e') x
  | brk env' => exact fun H' G' σ' e' x => h H' G' σ' (e.trans e') x
  | cont env' => exact fun H' G' σ' e' x => h H' G' σ' (e.trans e') x
  | ret d => exact h
/-! ### simple ones -/
theorem ss_asg {t : Tg} {m : ME} {tg e : Expr} (he : SE C Γ k X .v m e) (hg : PG X tg (gT X.K t)) (hs : swapsWithSole [tg] e pos.line X.env = pure false) (hw : swappedStores [tg] e X.env = pure none) (h1 : (assignEach [tg] X.env).map (·.2) = [assign tg X.env]) : SS C Γ k X (.asg t m) (.Assign [tg] e pos) := by
  obtain ⟨te, a1, a2⟩ := he
  refine ⟨_, ps_asg a1 hg hs hw h1, fun p0 H0 G0 H G s env σ Q x h => ?_⟩
  rw [run] at h
  refine a2 p0 H0 G0 H G s env σ _ x (W_mono (W_bind.mp h) fun d s1 q H1 G1 v fp g1 x1 r1 z1 => ?_)
  obtain ⟨n, f⟩ := z1 rfl
  refine tg_sem t (x.beside g1 (Reps.cons r1 Reps.nil) (by simpa using n) (by simpa using f)) (W_bind.mp q) fun env' σ' q e => ?_
  exact (show PostS C X p0 H0 G0 H G Q (.nx env') s1 from q) H1 G1 σ' g1.evo (x1.envs e)
theorem ss_asgC {i : Nat} {y : Str} {m : ME} {e : Expr} {py : Pos} (he : ∃ te, PS X (.Assign [.Name y py] e pos) (tAsg te (gName i)) ∧ ∀ (p0 : Option Addr) (H0 : Hp) (G0 : GS) (H : Hp) (G : GS) (s : Strm) (env : En) (σ : L2.St) (Q : VK), StX X.K C p0 H0 G0 H G s env σ →
          W (ev (callF Γ k) env .v m) s (Post C X p0 true H0 G0 H G env σ Q) → te σ H Q) : SS C Γ k X (.asg (.nm i) m) (.Assign [.Name y py] e pos) := by
  obtain ⟨te, a1, a2⟩ := he
  refine ⟨_, a1, fun p0 H0 G0 H G s env σ Q x h => ?_⟩
  rw [run] at h
  refine a2 p0 H0 G0 H G s env σ _ x (W_mono (W_bind.mp h) fun d s1 q H1 G1 v fp g1 x1 r1 z1 => ?_)
  obtain ⟨n, f⟩ := z1 rfl
  have q : PostS C X p0 H0 G0 H G Q (.nx (setE env i d)) s1 := q
  have b := x.beside g1 (Reps.cons r1 Reps.nil) (by simpa using n) (by simpa using f)
  have := tg_sem (.nm i) (R := fun env' s' => env' = setE env i d ∧ s' = s1) (s := s1) (Q := Q.nx) (H := H1) b ⟨rfl, rfl⟩ fun env' σ' q' e => by
    rw [q'.1] at e
    exact q H1 G1 σ' g1.evo (x1.envs e)
  exact this
theorem ss_par {i l : Nat} {m1 m2 : ME} {x y : Str} {a b : Expr} {px py pt : Pos} {kt k2 : Nat} {pt2 : Pos} (g : Gd C Γ Gs k X) (ha : SA C k X true (fun env => evs (callF Γ k) env (.cons m1 (.cons m2 .nil))) [a, b]) (hi : X.N[i]? = some x) (hj : X.N[l]? = some y) (hij : i ≠ l)
    (hx : X.env.scope.names.lookup x = some .local) (hy : X.env.scope.names.lookup y = some .local) (hw : swappedStores [.Tuple [.Name x px, .Name y py] kt pt] (.Tuple [a, b] k2 pt2) X.env = pure (some [x, y])) :
    SS C Γ k X (.par i l m1 m2) (.Assign [.Tuple [.Name x px, .Name y py] kt pt] (.Tuple [a, b] k2 pt2) pos) := by
  obtain ⟨ta, a1, a2⟩ := ha
  refine ⟨_, ps_par g.calm g.nd hi hj hij hx hy a1 hw, fun p0 H0 G0 H G s env σ Q x h => ?_⟩
  have h : W (evs (callF Γ k) env (.cons m1 (.cons m2 .nil)) >>= fun ds => match ds with | [x, y] => pure (Fl.nx (setE (setE env i x) l y)) | _ => bad) s (PostS C X p0 H0 G0 H G Q) := by
    rw [run] at h
    rw [evs]
    refine W_bind.mpr (W_bind.mpr (W_mono (W_bind.mp h) fun dx s1 q => W_bind.mpr ?_))
    rw [evs]
    refine W_bind.mpr (W_mono (W_bind.mp q) fun dy s2 q => W_bind.mpr ?_)
    rw [evs]
    exact q
  refine a2 p0 H0 G0 H G s env σ _ x (W_mono (W_bind.mp h) fun ds s1 q H1 G1 vs fp g1 x1 r1 z1 => ?_)
  obtain ⟨n, f⟩ := z1 rfl
  have b := x.beside g1 r1 n f
  split at q
  · rename_i d1 d2
    obtain ⟨v, w, f1, f2, rfl, _, _⟩ := reps2 r1
    have q : PostS C X p0 H0 G0 H G Q (.nx (setE (setE env i d1) l d2)) s1 := q
    have := sets_sem [i, l] (R := fun env' s' => env' = setE (setE env i d1) l d2 ∧ s' = s1) (s := s1) (Q := Q.nx) (H := H1) b ⟨rfl, rfl⟩ fun env' σ' q' e => by
      rw [q'.1] at e
      exact q H1 G1 σ' g1.evo (x1.envs e)
    obtain ⟨v', r, e1, v2, r2, e2, _, e3⟩ := this
    cases e1
    cases e2
    exact ⟨v, w, rfl, e3⟩
  · exact q.elim
theorem ss_exp {m : ME} {e : Expr} (he : SE C Γ k X .p m e) (hs : swapsWith e none pos.line X.env = pure false) : SS C Γ k X (.exp m) (.Expr e pos) := by
  obtain ⟨te, a1, a2⟩ := he
  refine ⟨_, ps_expr a1 hs, fun p0 H0 G0 H G s env σ Q x h => ?_⟩
  rw [run] at h
  refine a2 p0 H0 G0 H G s env σ _ x (W_mono (W_bind.mp h) fun d s1 q H1 G1 v fp g1 x1 r1 z1 => ?_)
  exact (show PostS C X p0 H0 G0 H G Q (.nx env) s1 from q) H1 G1 σ g1.evo x1
theorem ss_ret {m : ME} {e : Expr} (he : SE C Γ k X .v m e) : SS C Γ k X (.ret m) (.Return (some e) pos) := by
  obtain ⟨te, a1, a2⟩ := he
  refine ⟨_, ps_ret a1, fun p0 H0 G0 H G s env σ Q x h => ?_⟩
  rw [run] at h
  refine a2 p0 H0 G0 H G s env σ _ x (W_mono (W_bind.mp h) fun d s1 q H1 G1 v fp g1 x1 r1 z1 => ?_)
  obtain ⟨n, f⟩ := z1 rfl
  exact (show PostS C X p0 H0 G0 H G Q (.ret d) s1 from q) H1 G1 v fp x1.grow x1.strm x1.gs r1 n fun a ha => grow_none x.grow x.pl (f a ha)
theorem getE_sem {i : Nat} {R : D → Strm → Prop} (h : W (getE env i) s R) : ∃ d, env[i]? = some (some d) ∧ R d s := by
  unfold getE at h
  split at h
  · exact ⟨_, ‹_›, h⟩
  · exact h.elim
theorem ss_retv {i : Nat} {x : Str} {px : Pos} (hN : X.N[i]? = some x) (hv : Vis X.env.scope x) (hd : (x == ("__debug__" : Str)) = false) (hcd : (x == ("__classdict__" : Str)) = false) : SS C Γ k X (.retv i) (.Return (some (.Name x px)) pos) := by
  refine ⟨_, ps_ret (pe_var hN hv hd hcd), fun p0 H0 G0 H G s env σ Q x h => ?_⟩
  rw [run] at h
  obtain ⟨d, e, q⟩ := getE_sem (W_bind.mp h)
  obtain ⟨fp, a, n, b⟩ := x.env
  obtain ⟨v, f, e1, e2, e3, e4, _⟩ := a.repl n e
  exact ⟨v, e1, (show PostS C X p0 H0 G0 H G Q (.ret d) s from q) H G v f x.grow x.strm x.gs e2 e4 fun a ha => b a (e3 a ha)⟩
theorem ss_retN : SS C Γ k X .retN (.Return none pos) := ⟨_, ps_retN, fun p0 H0 G0 H G s env σ Q x h => by
  rw [run] at h
  exact (show PostS C X p0 H0 G0 H G Q (.ret .non) s from h) H G .non [] x.grow x.strm x.gs non_rep .nil (by simp)⟩
theorem ss_pass : SS C Γ k X .pass (.Pass pos) := ⟨_, ps_pass, fun p0 H0 G0 H G s env σ Q x h => by
  rw [run] at h
  exact (show PostS C X p0 H0 G0 H G Q (.nx env) s from h) H G σ Grow.rfl'.evo x⟩
theorem ss_brk : SS C Γ k X .brk (.Break pos) := ⟨_, ps_break, fun p0 H0 G0 H G s env σ Q x h => by
  rw [run] at h
  exact (show PostS C X p0 H0 G0 H G Q (.brk env) s from h) H G σ Grow.rfl'.evo x⟩
theorem ss_cont : SS C Γ k X .cont (.Continue pos) := ⟨_, ps_continue, fun p0 H0 G0 H G s env σ Q x h => by
  rw [run] at h
  exact (show PostS C X p0 H0 G0 H G Q (.cont env) s from h) H G σ Grow.rfl'.evo x⟩
theorem ss_nev {m : MS} {e : Stmt} (hm : ∀ env s R, W (run (callF Γ k) env m) s R → False) : SS C Γ k X m e := ⟨_, ps_never, fun p0 H0 G0 H G s env σ Q x h => (hm _ _ _ h).elim⟩
theorem ss_ite {c : ME} {a b : MSs} {e : Expr} {as bs : List Stmt} (hc : ST C Γ k X c e) (ha : SSs C Γ k X a as) (hb : SSs C Γ k X b bs) : SS C Γ k X (.ite c a b) (.If e as bs pos) := by
  obtain ⟨tc, c1, c2⟩ := hc
  obtain ⟨ta, a1, a2⟩ := ha
  obtain ⟨tb, b1, b2⟩ := hb
  refine ⟨_, ps_if c1 a1 b1, fun p0 H0 G0 H G s env σ Q x h => ?_⟩
  rw [run] at h
  refine c2 p0 H0 G0 H G s env σ _ x (W_mono (W_bind.mp h) fun r s1 q H1 G1 g1 x1 => ?_)
  cases r with
  | true => exact ite2 (fun _ => a2 p0 H0 G0 H1 G1 s1 env σ Q x1 (W_mono q fun r s2 q => PostS.evo g1.evo q)) fun z => absurd rfl z
  | false => exact ite2 (fun z => by cases z) fun _ => b2 p0 H0 G0 H1 G1 s1 env σ Q x1 (W_mono q fun r s2 q => PostS.evo g1.evo q)
/-! ### loops -/
theorem StX.kill (x : StX X.K C p0 H0 G0 H G s env σ) (l : List Nat) : StX X.K C p0 H0 G0 H G s (kilE l env) σ := by
  obtain ⟨fp, a, n, b⟩ := x.env
  obtain ⟨fq, q1, q2, q3⟩ := RepE.kill l a n
  exact x.envs ⟨fq, q1, q2, fun y hy => b y (q3 y hy)⟩
theorem ss_loop (g : Gd C Γ Gs k X) {t : Tg} {m : MI} {body : MSs} {kill : List Nat} {tg iter : Expr} {bs : List Stmt} (hi : SI C Γ k X tg m iter) (hg : PG X tg (gT X.K t)) (hb : SSs C Γ k X body bs) (hs : ∀ x, foldedSetIterable iter X.env x = pure x) :
    SS C Γ k X (.loop t m body kill) (.For tg iter bs [] pos) := by
  obtain ⟨wi, i1, i2⟩ := hi
  obtain ⟨tb, b1, b2⟩ := hb
  refine ⟨_, ps_for g.po g.calm i1 hg b1 hs, fun p0 H0 G0 H G s env σ Q x h => ?_⟩
  rw [run] at h
  refine i2 p0 H0 G0 H G s env σ _ x (W_mono (W_bind.mp h) fun ds s1 q => ?_)
  obtain ⟨c2, q⟩ := W_guard.mp (W_bind.mp q)
  refine ⟨c2, fun H1 G1 J g1 x1 yl => ?_⟩
  let Inv : Nat → L2.St → Hp → Prop := fun i σ Hi => ∃ Gi si envi, Evo p0 H1 G1 Hi Gi ∧ StX X.K C p0 H0 G0 Hi Gi si envi σ ∧ W (forL (fun e => runs (callF Γ k) e body) t kill (ds.drop i) envi) si (PostS C X p0 H0 G0 H1 G1 Q)
  refine ⟨fun i mm σ Hi => mm = ds.length - i ∧ i ≤ ds.length ∧ Inv i σ Hi, ⟨ds.length, by simp, Nat.zero_le _, G1, s1, _, Grow.rfl'.evo, x1.kill kill, W_mono q fun r s2 q => PostS.evo g1.evo q⟩, ?_⟩
  rintro i mm σ Hi ⟨rfl, hle, Gi, si, envi, ei, xi, w⟩
  by_cases hlt : i < ds.length
  · obtain ⟨go, yld⟩ := yl.1 i ds[i] Hi Gi (List.getElem?_eq_getElem hlt) ei xi.pl
    refine .inr ⟨go, Inv (i + 1), fun σ' H' n => ⟨ds.length - (i + 1), by omega, rfl, hlt, n⟩, fun y H3 hy => ?_⟩
    obtain ⟨ex, ry⟩ := yld y H3 hy
    have x3 := xi.ex' ex
    have e3 : Evo p0 H1 G1 H3 Gi := ei.trans (grow_ex ex).evo
    rw [List.drop_eq_getElem_cons hlt] at w
    have w := W_bind.mp (show W (asgT t ds[i] envi >>= _) si _ from w)
    refine tg_sem t (x3.beside Grow.rfl' (Reps.cons ry Reps.nil) .nil (by simp)) w fun env' σ' q e => ?_
    have x4 := x3.envs e
    refine b2 p0 H0 G0 H3 Gi si env' σ' _ x4 (W_mono (W_bind.mp q) fun r s2 q => ?_)
    cases r with
    | nx e2 => exact fun H' G' σ2 e' x' => ⟨G', s2, _, e3.trans e', x'.kill kill, q⟩
    | cont e2 => exact fun H' G' σ2 e' x' => ⟨G', s2, _, e3.trans e', x'.kill kill, q⟩
    | brk e2 => exact fun H' G' σ2 e' x' => (show PostS C X p0 H0 G0 H1 G1 Q (.nx (kilE kill e2)) s2 from q) H' G' σ2 (e3.trans e') (x'.kill kill)
    | ret d => exact q
  · have e : i = ds.length := by omega
    subst e
    rw [List.drop_length] at w
    exact .inl ⟨yl.2 Hi Gi ei xi.pl, (show PostS C X p0 H0 G0 H1 G1 Q (.nx envi) si from w) Hi Gi σ ei xi⟩
theorem ss_while (g : Gd C Γ Gs k X) {fuel : Nat} {c : ME} {body : MSs} {kill : List Nat} {e : Expr} {bs : List Stmt} (hc : ST C Γ k X c e) (hb : SSs C Γ k X body bs) : SS C Γ k X (.while fuel c body kill) (.While e bs [] pos) := by
  obtain ⟨tc, c1, c2⟩ := hc
  obtain ⟨tb, b1, b2⟩ := hb
  refine ⟨_, ps_while g.po c1 b1, fun p0 H0 G0 H G s env σ Q x h => ?_⟩
  rw [run] at h
  let Inv : Nat → L2.St → Hp → Prop := fun n σ Hi => ∃ Gi si envi, Evo p0 H G Hi Gi ∧ StX X.K C p0 H0 G0 Hi Gi si envi σ ∧ W (whileL (fun e => tru (ev (callF Γ k) e .t c)) (fun e => runs (callF Γ k) e body) kill n envi) si (PostS C X p0 H0 G0 H G Q)
  refine ⟨Inv, ⟨fuel, G, s, _, Grow.rfl'.evo, x.kill kill, h⟩, ?_⟩
  rintro n σ Hi ⟨Gi, si, envi, ei, xi, w⟩
  cases n with
  | zero => exact w.elim
  | succ n =>
    refine c2 p0 H0 G0 Hi Gi si envi σ _ xi (W_mono (W_bind.mp w) fun r s1 q H1 G1 g1 x1 => ?_)
    have e1 := ei.trans g1.evo
    cases r with
    | false => exact ite2 (fun z => by cases z) fun _ => (show PostS C X p0 H0 G0 H G Q (.nx envi) s1 from q) H1 G1 σ e1 x1
    | true =>
      refine ite2 (fun _ => ⟨Inv n, fun σ' H' z => ⟨n, Nat.lt_succ_self n, z⟩, ?_⟩) fun z => absurd rfl z
      have q := W_bind.mp (show W (runs (callF Γ k) envi body >>= _) s1 _ from q)
      refine b2 p0 H0 G0 H1 G1 s1 envi σ _ x1 (W_mono q fun r s2 q => ?_)
      cases r with
      | nx e2 => exact fun H' G' σ2 e' x' => ⟨G', s2, _, e1.trans e', x'.kill kill, q⟩
      | cont e2 => exact fun H' G' σ2 e' x' => ⟨G', s2, _, e1.trans e', x'.kill kill, q⟩
      | brk e2 => exact fun H' G' σ2 e' x' => (show PostS C X p0 H0 G0 H G Q (.nx (kilE kill e2)) s2 from q) H' G' σ2 (e1.trans e') (x'.kill kill)
      | ret d => exact q
/-! ### blocks -/
theorem sss_nil : SSs C Γ k X .nil [] := ⟨_, pss_nil, fun p0 H0 G0 H G s env σ Q x h => by
  rw [runs] at h
  exact (show PostS C X p0 H0 G0 H G Q (.nx env) s from h) H G σ Grow.rfl'.evo x⟩
theorem sss_cons {m : MS} {ms : MSs} {e : Stmt} {es : List Stmt} (h1 : SS C Γ k X m e) (h2 : SSs C Γ k X ms es) : SSs C Γ k X (.cons m ms) (e :: es) := by
  obtain ⟨t, a1, a2⟩ := h1
  obtain ⟨u, b1, b2⟩ := h2
  refine ⟨_, pss_cons a1 b1, fun p0 H0 G0 H G s env σ Q x h => ?_⟩
  rw [runs] at h
  refine a2 p0 H0 G0 H G s env σ _ x (W_mono (W_bind.mp h) fun r s1 q => ?_)
  cases r with
  | nx e2 => exact fun H' G' σ' e' x' => b2 p0 H0 G0 H' G' s1 e2 σ' Q x' (W_mono q fun r s2 q => PostS.evo e' q)
  | brk e2 => exact q
  | cont e2 => exact q
  | ret d => exact q
theorem sss_frz {i : Nat} {ms : MSs} {es : List Stmt} (h2 : SSs C Γ k X ms es) : SSs C Γ k X (.cons (.frz i) ms) es := by
  obtain ⟨u, b1, b2⟩ := h2
  refine ⟨u, b1, fun p0 H0 G0 H G s env σ Q x h => ?_⟩
  rw [runs] at h
  have h := W_bind.mp h
  rw [run] at h
  obtain ⟨d, e, q⟩ := getE_sem (W_bind.mp h)
  have q : W (runs (callF Γ k) (setE env i d.strip) ms) s (PostS C X p0 H0 G0 H G Q) := q
  obtain ⟨fp, re, n, b⟩ := x.env
  obtain ⟨v, f, e1, r, e3, e4, _, h2, _⟩ := re.repl n e
  obtain ⟨fq, q1, q2, q3⟩ := h2 d.strip (fun a => G a ∨ a ∈ f) [] (fun a z => .inl z) (fun a ha hf z => z.elim (fun z => (re.mem a ha).1 z) hf) (r.lend (fun _ z => .inl z) fun a ha => .inr ha) .nil (by simp)
  refine b2 p0 H0 G0 H (fun a => G a ∨ a ∈ f) s _ σ Q ⟨⟨x.grow.keep, fun p z => .inl (x.grow.gs p z), fun p o np z h => z.elim (fun z => x.grow.new p o np z h) fun z => absurd ((b p (e3 p z)).symm.trans h) (by simp), x.grow.hd⟩, fun p hp => ?_, fun p hp => ?_, fq, q1, q2, fun y hy => ?_⟩ (W_mono q fun r s2 q => PostS.evo ⟨fun _ _ _ h _ => h, fun _ h => .inl h⟩ q)
  · obtain ⟨pc, a1, a2, a3, a4, a5⟩ := x.strm p hp
    exact ⟨pc, a1, a2, a3, .inl a4, a5⟩
  · rcases hp with hp | hp
    · exact x.gs p hp
    · obtain ⟨_, a, xs, b⟩ := re.mem p (e3 p hp)
      exact ⟨a, _, b⟩
  · rcases q3 y hy with z | z
    · cases z
    · exact b y z.1
theorem sss_kil {l : List Nat} {ms : MSs} {es : List Stmt} (h2 : SSs C Γ k X ms es) : SSs C Γ k X (.cons (.kil l) ms) es := by
  obtain ⟨u, b1, b2⟩ := h2
  refine ⟨u, b1, fun p0 H0 G0 H G s env σ Q x h => ?_⟩
  rw [runs] at h
  have h := W_bind.mp h
  rw [run] at h
  exact b2 p0 H0 G0 H G s _ σ Q (x.kill l) h
end
end Mp

namespace Mp
open PySem PySem.Spec
open PyProof.Rows L2
section
variable {C : Addr} {Γ : String → Option MDef} {Gs : String → Option Int} {k : Nat} {X : Cx} {p0 : Option Addr} {H H1 H2 H' H0 : Hp} {G G1 G2 G' G0 : GS} {s s2 s' : Strm} {env : En} {σ : L2.St} {d : D} {v : V} {fp : List Addr} {st : Bool}
variable {p : Md} {pos pos' : Pos} {j : Nat}
theorem own_of {K : PySem.W.Frag} {ds : List D} {f : List Addr} (r : Rep K C p0 H G (.lst true ds) v f) (n : f.Nodup) : ∃ p vs f', v = .ref p ∧ H p = some (.lst vs) ∧ some p ≠ p0 ∧ Reps K C p0 H G ds vs f' ∧ ¬ G p ∧ f = p :: f' ∧ p ∉ f' ∧ f'.Nodup := by
  rw [Rep] at r
  obtain ⟨p, vs, f', e, q1, np, q2, q3⟩ := r
  rcases q3 with ⟨_, b, c⟩ | ⟨a, _⟩
  · rw [c] at n
    obtain ⟨n1, n2⟩ := List.nodup_cons.mp n
    exact ⟨p, vs, f', e, q1, np, q2, b, c, n1, n2⟩
  · cases a
/-- a list of one's own at slot i, written -/
theorem own_write {i : Nat} {ds : List D} {fe : List Addr} (x : StX X.K C p0 H0 G0 H G s env σ) (re : RepE X.K C p0 H G env σ fe) (n : fe.Nodup) (f0 : ∀ a ∈ fe, H0 a = none) (e : env[i]? = some (some (.lst true ds))) :
    ∃ p vs f, σ[i]? = some (some (.ref p)) ∧ H p = some (.lst vs) ∧ Reps X.K C p0 H G ds vs f ∧ f.Nodup ∧ p ∉ f ∧ p ∈ fe ∧ (∀ a ∈ f, a ∈ fe) ∧ ¬ G p ∧
      ∀ ds' vs' f', Reps X.K C p0 H G ds' vs' f' → f'.Nodup → (∀ a ∈ f', (a ∈ f ∨ a ∉ fe) ∧ H0 a = none) → ∃ fq, RepE X.K C p0 (upd H p (.lst vs')) G (setE env i (.lst true ds')) σ fq ∧ fq.Nodup ∧ (∀ a ∈ fq, a = p ∨ a ∈ f' ∨ (a ∈ fe ∧ a ∉ f)) ∧
        StX X.K C p0 H0 G0 (upd H p (.lst vs')) G s (setE env i (.lst true ds')) σ ∧ Evo p0 H G (upd H p (.lst vs')) G := by
  obtain ⟨v, f1, e1, r, sub, n1, h1, _⟩ := re.repl n e
  obtain ⟨p, vs, f, rfl, hp, np, rs, nG, rfl, np2, n2⟩ := own_of r n1
  have pin : p ∈ fe := sub p List.mem_cons_self
  refine ⟨p, vs, f, e1, hp, rs, n2, np2, pin, fun a ha => sub a (List.mem_cons_of_mem _ ha), nG, fun ds' vs' f' rs' n' sub' => ?_⟩
  have npf : p ∉ f' := fun z => by
    rcases (sub' p z).1 with q | q
    · exact np2 q
    · exact q pin
  have rl : Rep X.K C p0 (upd H p (.lst vs')) G (.lst true ds') (.ref p) (p :: f') := by
    rw [Rep]
    exact ⟨p, vs', f', rfl, upd_same, np, Reps.wrt hp nG rs' npf, .inl ⟨rfl, nG, rfl⟩⟩
  obtain ⟨fq, q1, q2, q3⟩ := h1 p vs vs' _ (p :: f') List.mem_cons_self hp nG rl (List.nodup_cons.mpr ⟨npf, n'⟩) fun a ha => by
    rcases List.mem_cons.mp ha with rfl | ha
    · exact .inl List.mem_cons_self
    · exact (sub' a ha).1.imp (fun z => List.mem_cons_of_mem _ z) id
  have q4 : ∀ a ∈ fq, a = p ∨ a ∈ f' ∨ (a ∈ fe ∧ a ∉ f) := fun a ha => by
    rcases q3 a ha with z | z
    · exact (List.mem_cons.mp z).imp id .inl
    · exact .inr (.inr ⟨z.1, fun y => z.2 (List.mem_cons_of_mem _ y)⟩)
  refine ⟨fq, q1, q2, q4, ⟨x.grow.wrt (f0 p pin), x.strm.wrt hp np nG, gs_wrt x.gs hp, fq, q1, q2, fun a ha => ?_⟩, ⟨fun q o nq hq z => ?_, fun _ h => h⟩⟩
  · rcases q4 a ha with rfl | z | z
    · exact f0 _ pin
    · exact (sub' a z).2
    · exact f0 a z.1
  · have : q ≠ p := fun y => by
      subst y
      rcases z with z | z
      · exact nG z
      · rw [hp] at hq
        exact z _ (Option.some.inj hq).symm
    rw [upd_ne this]
    exact hq
theorem pe_v {i : Nat} {x : Str} {px : Pos} (hN : X.N[i]? = some x) (hv : Vis X.env.scope x) (hd : (x == ("__debug__" : Str)) = false) (hcd : (x == ("__classdict__" : Str)) = false) : PE X (.Name x px) (tVar i) := pe_var hN hv hd hcd
/-- a slot's name as the text has it -/
structure Nm (X : Cx) (i : Nat) (x : Str) : Prop where
  hN : X.N[i]? = some x
  hv : Vis X.env.scope x
  hd : (x == ("__debug__" : Str)) = false
  hcd : (x == ("__classdict__" : Str)) = false
theorem Nm.pe {i : Nat} {x : Str} {px : Pos} (n : Nm X i x) : PE X (.Name x px) (tVar i) := pe_var n.hN n.hv n.hd n.hcd
theorem setAt_at {ds : List D} {i : Int} {d : D} {r : List D} (h : setAt ds i d = some r) : ∃ j, pix ds.length i = some j ∧ r = ds.set j d := by
  unfold setAt at h
  cases e : pix ds.length i with
  | none => rw [e] at h; cases h
  | some j => rw [e] at h; cases h; exact ⟨j, rfl, rfl⟩
theorem pix_lt {n : Nat} {i : Int} {j : Nat} (h : pix n i = some j) : j < n := (ixN_seq (show ixN n i = some j from h)).2.1
theorem ss_app {i : Nat} {x : Str} {m : ME} {e : Expr} {px apos cpos : Pos} (n : Nm X i x) (he : SE C Γ k X .v m e) (hs : starEach (e :: []) X.env = (false, eval e X.env) :: starEach [] X.env)
    (hfew : ((backTo cpos (starEach (e :: []) X.env)).all (fun x => !x.1) && (backToKw cpos (keywordEach [] X.env)).all (fun x => x.1.isSome) && decide ((e :: ([] : List Expr)).length + ([] : List Keyword).length + (if ([] : List Keyword).isEmpty then 0 else 1) < 30)) = true) (hline : (apos.endLine == cpos.line) = true) :
    SS C Γ k X (.app i m) (.Expr (.Call (.Attribute (.Name x px) "append" apos) [e] [] cpos) pos) := by
  obtain ⟨te, a1, a2⟩ := he
  refine ⟨_, ps_expr (pe_bm PySem.F.plainAttrs_list PySem.F.slot_list_append PySem.F.type_list_append mt_append n.pe (pa_cons a1 pa_nil hs) rfl hfew hline hs rfl) rfl, fun p0 H0 G0 H G s env σ Q x h => ?_⟩
  rw [run] at h
  -- what the slot holds is looked at first; the text reads it first too
  have h := W_bind.mp h
  have look : ∃ ds, env[i]? = some (some (.lst true ds)) := by
    unfold W at h
    cases hm : ev (callF Γ k) env .v m s with
    | ok d s1 =>
      rw [hm] at h
      obtain ⟨o, e1, q⟩ := getE_sem (W_bind.mp (show W _ s1 _ from h))
      have q := W_bind.mp q
      unfold appD at q
      split at q
      · exact ⟨_, e1⟩
      · exact q.elim
    | err c s1 => rw [hm] at h; exact h.elim
    | bad => rw [hm] at h; exact h.elim
  obtain ⟨ds, e1⟩ := look
  obtain ⟨fe, re, nn, f0⟩ := x.env
  obtain ⟨p1, vs, f, es, hp, rs, nf, npf, pin, sub, nG, wr⟩ := own_write x re nn f0 e1
  refine ⟨_, es, .inl ⟨rfl, _, SqL.of hp⟩, a2 p0 H0 G0 H G s env σ _ x (W_mono h fun d s1 q H1 G1 v fp g1 x1 r1 z1 => ?_)⟩
  obtain ⟨o, e1', q⟩ := getE_sem (W_bind.mp q)
  rw [e1] at e1'
  cases e1'
  obtain ⟨c, q⟩ := W_guard.mp (W_bind.mp (W_bind.mp q))
  have q : PostS C X p0 H0 G0 H G Q (.nx (setE env i (.lst true (ds ++ [d])))) s1 := q
  obtain ⟨n1, fr⟩ := z1 rfl
  have re1 := re.grow x.pl g1
  obtain ⟨p2, vs2, f2, es2, hp2, rs2, nf2, npf2, pin2, sub2, nG2, wr2⟩ := own_write x1 re1 nn f0 e1
  rw [es] at es2
  cases es2
  refine ⟨p1, vs2, v, rfl, rfl, hp2, by rw [← rs2.length]; exact lim_size' c, ?_⟩
  have dis : ∀ a ∈ fp, a ∉ fe := fun a ha hb => by
    obtain ⟨_, _, xs, z⟩ := re.mem a hb
    rw [fr a ha] at z
    cases z
  obtain ⟨fq, _, _, _, x3, ev3⟩ := wr2 (ds ++ [d]) (vs2 ++ [v]) (f2 ++ (fp ++ [])) (Reps.append rs2 (Reps.cons r1 Reps.nil)) (by
    rw [List.append_nil]
    exact nodup_app.mpr ⟨nf2, n1, fun a h1 h2 => dis a h2 (sub2 a h1)⟩) fun a ha => by
      rw [List.append_nil] at ha
      rcases List.mem_append.mp ha with z | z
      · exact ⟨.inl z, f0 a (sub2 a z)⟩
      · exact ⟨.inr (dis a z), grow_none x.grow x.pl (fr a z)⟩
  exact q _ _ σ (g1.evo.trans ev3) x3
end
end Mp

namespace Mp
open PySem PySem.Spec
open PyProof.Rows L2
theorem W_ex {α : Type} {m : M α} {s : Strm} {Q : α → Strm → Prop} (h : W m s Q) : ∃ a s', Q a s' := by
  unfold W at h
  cases e : m s with
  | ok a s' => rw [e] at h; exact ⟨a, s', h⟩
  | err c s' => rw [e] at h; exact h.elim
  | bad => rw [e] at h; exact h.elim
section
variable {C : Addr} {Γ : String → Option MDef} {Gs : String → Option Int} {k : Nat} {X : Cx} {p0 : Option Addr} {H H1 H2 H' H0 : Hp} {G G1 G2 G' G0 : GS} {s s2 s' : Strm} {env : En} {σ : L2.St} {d : D} {v : V} {fp : List Addr} {st : Bool}
variable {p : Md} {pos pos' : Pos} {j : Nat}
theorem not_in_env {fe f : List Addr} (re : RepE X.K C p0 H G env σ fe) (fr : ∀ a ∈ f, H a = none) : ∀ a ∈ f, a ∉ fe := fun a ha hb => by
  obtain ⟨_, _, xs, z⟩ := re.mem a hb
  rw [fr a ha] at z
  cases z
/-! ### x[k] = e -/
theorem strm_set {pp : Addr} {vs : List V} {j : Nat} {z : V} {s3 : Strm} (x : StX X.K C p0 H0 G0 H G s env σ) (hp : p0 = some pp) (hl : ∃ pc, vs = [.ref pc, .int s3.cell, .int s3.ix, .int s3.mixed] ∧ ∃ ys, H pp = some (.lst (.ref pc :: ys))) (hc : s3.cells = s.cells) : StX X.K C p0 H0 G0 (upd H pp (.lst vs)) G s3 env σ ∧ Grow p0 H G (upd H pp (.lst vs)) G := by
  obtain ⟨pc, rfl, ys, hy⟩ := hl
  obtain ⟨pc', a1, a2, a3, a4, a5⟩ := x.strm pp hp
  rw [hy] at a1
  injection a1 with a1
  injection a1 with a1
  injection a1 with a1 _
  injection a1 with a1
  subst a1
  have gr : Grow p0 H G (upd H pp (.lst [.ref pc, .int s3.cell, .int s3.ix, .int s3.mixed])) G := ⟨fun q o np h => by rw [upd_ne fun z => np (by rw [z, hp])]; exact h, fun _ h => h, fun _ _ _ h _ => h, fun q y xs e h => by
    rw [hp] at e
    cases e
    rw [hy] at h
    injection h with h
    injection h with h
    injection h with h _
    subst h
    exact ⟨_, upd_same⟩⟩
  refine ⟨⟨x.grow.trans gr, fun q hq => ?_, fun q hq => ?_, ?_⟩, gr⟩
  · rw [hp] at hq
    cases hq
    exact ⟨pc, upd_same, by rw [upd_ne a3, hc]; exact a2, a3, a4, by rw [hc]; exact a5⟩
  · obtain ⟨np, o, h⟩ := x.gs q hq
    exact ⟨np, o, gr.keep _ _ np h⟩
  · obtain ⟨fe, re, n, f⟩ := x.env
    exact ⟨fe, re.grow x.pl gr, n, f⟩
theorem ss_set1 {i : Nat} {x : Str} {mk me : ME} {ek e : Expr} {px ps : Pos} (n : Nm X i x) (hk : SE C Γ k X .v mk ek) (he : SE C Γ k X .v me e) (hpl : PlainIx ek) (hs : swapsWithSole [.Subscript (.Name x px) ek ps] e pos.line X.env = pure false) (hg : ∀ {to ti : TE}, PE X (.Name x px) to → PE X ek ti → PG X (.Subscript (.Name x px) ek ps) (gSub to ti rSetL)) :
    SS C Γ k X (.set1 i mk me) (.Assign [.Subscript (.Name x px) ek ps] e pos) := by
  obtain ⟨te, a1, a2⟩ := he
  obtain ⟨tk, b1, b2⟩ := hk
  refine ⟨_, ps_asg a1 (hg n.pe b1) hs rfl rfl, fun p0 H0 G0 H G s env σ Q x h => ?_⟩
  rw [run] at h
  refine a2 p0 H0 G0 H G s env σ _ x (W_mono (W_bind.mp h) fun d s1 q H1 G1 v fv g1 x1 r1 z1 => ?_)
  have q := W_bind.mp q
  obtain ⟨d0, s0, q0⟩ := W_ex q
  obtain ⟨o, e1, _⟩ := getE_sem (W_bind.mp q0)
  obtain ⟨w, f0, es, _, _⟩ := x1.look e1
  refine ⟨w, es, b2 p0 H0 G0 H1 G1 s1 env σ _ x1 (W_mono q fun kd s2 q H2 G2 kv fk g2 x2 r2 z2 => ?_)⟩
  obtain ⟨o', e1', q⟩ := getE_sem (W_bind.mp q)
  rw [e1] at e1'
  cases e1'
  have q := W_bind.mp q
  obtain ⟨nv, fv0⟩ := z1 rfl
  obtain ⟨fe, re, nn, fe0⟩ := x.env
  have g12 := g1.trans g2
  have re2 := re.grow x.pl g12
  have r1' := r1.grow x1.pl g2
  have ko : (∃ ds i0, o = .lst true ds ∧ kd = .int i0) ∨ ∃ i0 z0, o = .strm ∧ kd = .int i0 ∧ d = .int z0 := by
    unfold set1D at q
    split at q
    · exact .inl ⟨_, _, rfl, rfl⟩
    · split at q
      · exact .inr ⟨_, _, rfl, rfl, rfl⟩
      · exact q.elim
    · exact q.elim
  rcases ko with ⟨ds, i0, rfl, rfl⟩ | ⟨i0, z0, rfl, rfl, rfl⟩
  · obtain ⟨r, er, q⟩ := W_ofO.mp (W_bind.mp (show W (ofO (setAt ds i0 d) >>= fun r => pure (D.lst true r)) s2 _ from q))
    have q : PostS C X p0 H0 G0 H G Q (.nx (setE env i (.lst true r))) s2 := q
    obtain ⟨j, hj, rfl⟩ := setAt_at er
    obtain ⟨p1, vs, f, es', hp, rs, nf, npf, pin, sub, nG, wr⟩ := own_write x2 re2 nn fe0 e1
    rw [es] at es'
    cases es'
    have hjl := pix_lt hj
    obtain ⟨_, _, _, _, _, _, _, h2, _⟩ := rs.repl nf (List.getElem?_eq_getElem hjl)
    have dis := not_in_env re fv0
    obtain ⟨fq, q1, q2, q3⟩ := h2 d v fv r1' nv fun a ha hb => dis a ha (sub a hb)
    obtain ⟨_, _, _, _, x3, ev3⟩ := wr _ _ fq q1 q2 fun a ha => by
      rcases q3 a ha with z | z
      · exact ⟨.inr (dis a z), grow_none x.grow x.pl (fv0 a z)⟩
      · exact ⟨.inl z.1, fe0 a (sub a z.1)⟩
    rw [int_of r2]
    exact ⟨p1, vs, _, j, rfl, rfl, hp, by rw [← rs.length]; exact hj, q _ _ σ (g12.evo.trans ev3) x3⟩
  · have q := W_getS.mp (W_bind.mp (show W (getS >>= fun s =>
      (if i0 = 1 then setS { s with cell := z0 } >>= fun _ => pure .strm
      else if i0 = 2 then setS { s with ix := z0 } >>= fun _ => pure .strm
      else if i0 = 3 then setS { s with mixed := z0 } >>= fun _ => pure .strm
      else bad : M D)) s2 _ from q))
    obtain ⟨w', fw, es', rw', _⟩ := x2.look e1
    rw [es] at es'
    cases es'
    rw [Rep] at rw'
    obtain ⟨pp, hp, rfl, _⟩ := rw'
    obtain ⟨pc, b1, b2, b3, b4, b5⟩ := x2.strm pp hp
    rw [int_of r2]
    have hv : v = .int z0 := int_of r1'
    have fin : ∀ {s3 : Strm} {j : Nat}, s3.cells = s2.cells → [V.ref pc, V.int s3.cell, V.int s3.ix, V.int s3.mixed] = ([V.ref pc, V.int s2.cell, V.int s2.ix, V.int s2.mixed] : List V).set j v → ixN 4 i0 = some j → W (pure D.strm : M D) s3 (fun a s' => W (pure (Fl.nx (setE env i a)) : M Fl) s' (PostS C X p0 H0 G0 H G Q)) → rSetL (.ref pp) (.int i0) v H2 fun H3 => Q.nx σ H3 := by
      intro s3 j hc hv hj q
      have q : PostS C X p0 H0 G0 H G Q (.nx (setE env i .strm)) s3 := q
      refine ⟨pp, _, i0, j, rfl, rfl, b1, hj, ?_⟩
      rw [← hv]
      obtain ⟨x3, g3⟩ := strm_set (s3 := s3) (j := j) (z := v) x2 hp ⟨pc, rfl, _, b1⟩ hc
      have : setE env i .strm = env := by
        unfold setE
        apply List.ext_getElem?
        intro l
        by_cases hl : i = l
        · subst hl
          have hil := (List.getElem?_eq_some_iff.mp e1).1
          rw [List.getElem?_set_self hil, e1]
        · rw [List.getElem?_set_ne hl]
      rw [this] at q
      exact q _ _ σ (g12.trans g3).evo x3
    have q := W_ite.mp q
    by_cases i1 : i0 = 1
    · rw [if_pos i1] at q
      subst i1
      exact fin (s3 := { s2 with cell := z0 }) (j := 1) rfl (by rw [hv] <;> rfl) rfl (W_bind.mp q)
    · rw [if_neg i1] at q
      have q := W_ite.mp q
      by_cases i2 : i0 = 2
      · rw [if_pos i2] at q
        subst i2
        exact fin (s3 := { s2 with ix := z0 }) (j := 2) rfl (by rw [hv] <;> rfl) rfl (W_bind.mp q)
      · rw [if_neg i2] at q
        have q := W_ite.mp q
        by_cases i3 : i0 = 3
        · rw [if_pos i3] at q
          subst i3
          exact fin (s3 := { s2 with mixed := z0 }) (j := 3) rfl (by rw [hv] <;> rfl) rfl (W_bind.mp q)
        · rw [if_neg i3] at q
          exact q.elim
/-! ### x[k][l] = e -/
theorem ss_set2 {i : Nat} {x : Str} {mk ml me : ME} {ek el e : Expr} {px ps ps2 : Pos} (n : Nm X i x) (hk : SE C Γ k X .v mk ek) (hl : SE C Γ k X .v ml el) (he : SE C Γ k X .v me e) (hpk : PlainIx ek) (hs : swapsWithSole [.Subscript (.Subscript (.Name x px) ek ps2) el ps] e pos.line X.env = pure false)
    (hg : ∀ {to ti : TE}, PE X (.Subscript (.Name x px) ek ps2) to → PE X el ti → PG X (.Subscript (.Subscript (.Name x px) ek ps2) el ps) (gSub to ti rSetL)) :
    SS C Γ k X (.set2 i mk ml me) (.Assign [.Subscript (.Subscript (.Name x px) ek ps2) el ps] e pos) := by
  obtain ⟨te, a1, a2⟩ := he
  obtain ⟨tk, b1, b2⟩ := hk
  obtain ⟨tl, c1, c2⟩ := hl
  refine ⟨_, ps_asg a1 (hg (pe_ix ix_seq n.pe b1 hpk) c1) hs rfl rfl, fun p0 H0 G0 H G s env σ Q x h => ?_⟩
  rw [run] at h
  refine a2 p0 H0 G0 H G s env σ _ x (W_mono (W_bind.mp h) fun d s1 q H1 G1 v fv g1 x1 r1 z1 => ?_)
  have q := W_bind.mp q
  obtain ⟨d0, s0, q0⟩ := W_ex q
  obtain ⟨d0', s0', q0⟩ := W_ex (W_bind.mp q0)
  obtain ⟨o, e1, q0⟩ := getE_sem (W_bind.mp q0)
  obtain ⟨w, f0, es, _, _⟩ := x1.look e1
  refine ⟨w, es, b2 p0 H0 G0 H1 G1 s1 env σ _ x1 (W_mono q fun kd s2 q H2 G2 kv fk g2 x2 r2 z2 => ?_)⟩
  have q := W_bind.mp q
  obtain ⟨ld0, s00, q00⟩ := W_ex q
  obtain ⟨o', e1', q00⟩ := getE_sem (W_bind.mp q00)
  rw [e1] at e1'
  cases e1'
  -- what is looked at for the inner list
  have inner : ∃ ds i0 j rs, o = .lst true ds ∧ kd = .int i0 ∧ pix ds.length i0 = some j ∧ ds[j]? = some (.lst true rs) := by
    have q00 := W_bind.mp q00
    unfold set2D at q00
    split at q00
    · obtain ⟨r, er, q00⟩ := W_ofO.mp (W_bind.mp q00)
      split at q00
      · rename_i rs m _ _
        cases ej : pix _ _ with
        | none => rw [ej] at er; cases er
        | some j =>
          rw [ej] at er
          exact ⟨_, _, j, _, rfl, rfl, ej, er⟩
      · exact q00.elim
    · exact q00.elim
  obtain ⟨ds, i0, j, rs, rfl, rfl, hj, hjr⟩ := inner
  obtain ⟨nv, fv0⟩ := z1 rfl
  obtain ⟨fe, re, nn, fe0⟩ := x.env
  have g12 := g1.trans g2
  have re2 := re.grow x.pl g12
  obtain ⟨p1, vs, f, es', hp, rs1, nf, npf, pin, sub, nG, wr⟩ := own_write x2 re2 nn fe0 e1
  rw [es] at es'
  cases es'
  obtain ⟨iv, fi, hiv, ri, subi, ni, k1, _, _⟩ := rs1.repl nf hjr
  obtain ⟨q1, ws, g, rfl, hq, npq, rq, nGq, efi, nqg, ng⟩ := own_of ri ni
  rw [int_of r2]
  refine .inl ⟨p1, vs, i0, .ref q1, rfl, rfl, SqL.of hp, ?_, ?_⟩
  · unfold atI
    show (pix vs.length i0).bind _ = _
    rw [← rs1.length, hj]
    exact hiv
  refine c2 p0 H0 G0 H2 G2 s2 env σ _ x2 (W_mono q fun ld s3 q H3 G3 lv fl g3 x3 r3 z3 => ?_)
  obtain ⟨o', e1', q⟩ := getE_sem (W_bind.mp q)
  rw [e1] at e1'
  cases e1'
  have q := W_bind.mp q
  have g13 := g12.trans g3
  have re3 := re.grow x.pl g13
  have r1' := (r1.grow x1.pl g2).grow x2.pl g3
  have kl : ∃ m, ld = .int m := by
    unfold set2D at q
    dsimp only at q
    obtain ⟨r, er, q⟩ := W_ofO.mp (W_bind.mp q)
    split at q
    · exact ⟨_, rfl⟩
    · exact q.elim
  obtain ⟨m, rfl⟩ := kl
  obtain ⟨r, er, q⟩ := W_ofO.mp (W_bind.mp (show W (ofO ((pix ds.length i0).bind fun j => ds[j]?) >>= fun r => (match r, D.int m with
    | .lst true rs, .int m => do
      let r' ← ofO (setAt rs m d)
      let q ← ofO (setAt ds i0 (.lst true r'))
      pure (.lst true q)
    | _, _ => bad : M D)) s3 _ from q))
  rw [hj] at er
  have er : ds[j]? = some r := er
  rw [hjr] at er
  cases er
  · obtain ⟨r', er', q⟩ := W_ofO.mp (W_bind.mp (show W (ofO (setAt rs m d) >>= fun r' => ofO (setAt ds i0 (.lst true r')) >>= fun q => pure (D.lst true q)) s3 _ from q))
    obtain ⟨ds', ed', q⟩ := W_ofO.mp (W_bind.mp q)
    have q : PostS C X p0 H0 G0 H G Q (.nx (setE env i (.lst true ds'))) s3 := q
    obtain ⟨jm, hjm, rfl⟩ := setAt_at er'
    obtain ⟨jd, hjd, rfl⟩ := setAt_at ed'
    rw [hj] at hjd
    cases hjd
    -- the state at the write
    obtain ⟨v3, f3, e3, rr3, sub3, n3, h3, _⟩ := re3.repl nn e1
    rw [es] at e3
    cases e3
    obtain ⟨p1', vs', f', ep, hp3, np3, rs3, nG3, rfl, npf3, nf3⟩ := own_of rr3 n3
    cases ep
    have hp' := g3.keep _ _ np3 hp
    rw [hp3] at hp'
    cases hp'
    obtain ⟨iv3, fi3, hiv3, ri3, subi3, ni3, k3, _, _⟩ := rs3.repl nf3 hjr
    rw [hiv] at hiv3
    cases hiv3
    obtain ⟨q1', ws', g', eq', hq3, npq3, rq3, nGq3, rfl, nqg3, ng3⟩ := own_of ri3 ni3
    cases eq'
    have hjml := pix_lt hjm
    obtain ⟨_, _, _, _, _, _, _, l2, _⟩ := rq3.repl ng3 (List.getElem?_eq_getElem hjml)
    have dis := not_in_env re fv0
    have gsub : ∀ a ∈ g', a ∈ fe := fun a ha => sub3 a (List.mem_cons_of_mem _ (subi3 a (List.mem_cons_of_mem _ ha)))
    have qin : q1 ∈ f' := subi3 q1 List.mem_cons_self
    have qfe : q1 ∈ fe := sub3 q1 (List.mem_cons_of_mem _ qin)
    obtain ⟨gq, u1, u2, u3⟩ := l2 d v fv r1' nv fun a ha hb => dis a ha (gsub a hb)
    have nqgq : q1 ∉ gq := fun z => by
      rcases u3 q1 z with y | y
      · exact dis q1 y qfe
      · exact nqg3 y.1
    have rin : Rep X.K C p0 (upd H3 q1 (.lst (ws'.set jm v))) G3 (.lst true (rs.set jm d)) (.ref q1) (q1 :: gq) := by
      rw [Rep]
      exact ⟨q1, _, gq, rfl, upd_same, npq3, Reps.wrt hq3 nGq3 u1 nqgq, .inl ⟨rfl, nGq3, rfl⟩⟩
    obtain ⟨fq, w1, w2, w3⟩ := k3 q1 ws' (ws'.set jm v) _ (q1 :: gq) List.mem_cons_self hq3 nGq3 rin (List.nodup_cons.mpr ⟨nqgq, u2⟩) fun a ha => by
      rcases List.mem_cons.mp ha with rfl | ha
      · exact .inl List.mem_cons_self
      · rcases u3 a ha with y | y
        · exact .inr fun z => dis a y (sub3 a (List.mem_cons_of_mem _ z))
        · exact .inl (List.mem_cons_of_mem _ y.1)
    have w3' : ∀ a ∈ fq, a ∈ fv ∨ a ∈ f' := fun a ha => by
      rcases w3 a ha with y | y
      · rcases List.mem_cons.mp y with rfl | y
        · exact .inr qin
        · rcases u3 a y with z | z
          · exact .inl z
          · exact .inr (subi3 a (List.mem_cons_of_mem _ z.1))
      · exact .inr y.1
    have npq1 : p1 ≠ q1 := fun z => npf3 (z ▸ qin)
    have npfq : p1 ∉ fq := fun z => by
      rcases w3' p1 z with y | y
      · exact dis p1 y (sub3 p1 List.mem_cons_self)
      · exact npf3 y
    have rout : Rep X.K C p0 (upd H3 q1 (.lst (ws'.set jm v))) G3 (.lst true (ds.set j (.lst true (rs.set jm d)))) (.ref p1) (p1 :: fq) := by
      rw [Rep]
      exact ⟨p1, _, fq, rfl, by rw [upd_ne npq1]; exact hp3, np3, w1, .inl ⟨rfl, nG3, rfl⟩⟩
    obtain ⟨fr, t1, t2, t3⟩ := h3 q1 ws' (ws'.set jm v) _ (p1 :: fq) (List.mem_cons_of_mem _ qin) hq3 nGq3 rout (List.nodup_cons.mpr ⟨npfq, w2⟩) fun a ha => by
      rcases List.mem_cons.mp ha with rfl | ha
      · exact .inl List.mem_cons_self
      · rcases w3' a ha with y | y
        · exact .inr fun z => dis a y z
        · exact .inl (List.mem_cons_of_mem _ y)
    have x4 : StX X.K C p0 H0 G0 (upd H3 q1 (.lst (ws'.set jm v))) G3 s3 (setE env i (.lst true (ds.set j (.lst true (rs.set jm d))))) σ := by
      refine ⟨x3.grow.wrt (fe0 q1 qfe), x3.strm.wrt hq3 npq3 nGq3, gs_wrt x3.gs hq3, fr, t1, t2, fun a ha => ?_⟩
      rcases t3 a ha with y | y
      · rcases List.mem_cons.mp y with rfl | y
        · exact fe0 _ (sub3 _ List.mem_cons_self)
        · rcases w3' a y with z | z
          · exact grow_none x.grow x.pl (fv0 a z)
          · exact fe0 a (sub3 a (List.mem_cons_of_mem _ z))
      · exact fe0 a y.1
    have ev4 : Evo p0 H3 G3 (upd H3 q1 (.lst (ws'.set jm v))) G3 := ⟨fun y o ny hy z => by
      have : y ≠ q1 := fun e => by
        subst e
        rcases z with z | z
        · exact nGq3 z
        · rw [hq3] at hy
          exact z _ (Option.some.inj hy).symm
      rw [upd_ne this]
      exact hy, fun _ h => h⟩
    rw [int_of r3]
    exact ⟨q1, ws', m, jm, rfl, rfl, hq3, by rw [← rq3.length]; exact hjm, q _ _ σ (g13.evo.trans ev4) x4⟩
end
end Mp

namespace Mp
open PySem PySem.Spec
open PyProof.Rows L2
section
variable {C : Addr} {Γ : String → Option MDef} {Gs : String → Option Int} {k : Nat} {X : Cx} {p0 : Option Addr} {H H1 H2 H' H0 : Hp} {G G1 G2 G' G0 : GS} {s s2 s' : Strm} {env : En} {σ : L2.St} {d : D} {v : V} {fp : List Addr} {st : Bool}
variable {p : Md} {pos pos' : Pos} {j : Nat}
/-- a method's call on one line, its arguments plain -/
structure Ln (X : Cx) (es : List Expr) (apos cpos : Pos) : Prop where
  hfew : ((backTo cpos (starEach es X.env)).all (fun x => !x.1) && (backToKw cpos (keywordEach [] X.env)).all (fun x => x.1.isSome) && decide (es.length + ([] : List Keyword).length + (if ([] : List Keyword).isEmpty then 0 else 1) < 30)) = true
  hline : (apos.endLine == cpos.line) = true
theorem lst_look {i : Nat} {f : D → M D} {R : Fl → Strm → Prop} (hf : ∀ o s (R : D → Strm → Prop), W (f o) s R → ∃ ds, o = .lst true ds) (h : W (getE env i >>= fun o => f o >>= fun r => pure (Fl.nx (setE env i r))) s R) : ∃ ds, env[i]? = some (some (.lst true ds)) ∧ W (f (.lst true ds)) s fun r s' => R (.nx (setE env i r)) s' := by
  obtain ⟨o, e, q⟩ := getE_sem (W_bind.mp h)
  have q := W_bind.mp q
  obtain ⟨ds, rfl⟩ := hf o s _ q
  exact ⟨ds, e, q⟩
theorem ss_ext {i : Nat} {x : Str} {m : ME} {e : Expr} {px apos cpos : Pos} (n : Nm X i x) (he : SE C Γ k X .p m e) (hs : starEach (e :: []) X.env = (false, eval e X.env) :: starEach [] X.env) (ln : Ln X [e] apos cpos) :
    SS C Γ k X (.ext i m) (.Expr (.Call (.Attribute (.Name x px) "extend" apos) [e] [] cpos) pos) := by
  obtain ⟨te, a1, a2⟩ := he.b
  refine ⟨_, ps_expr (pe_bm PySem.F.plainAttrs_list PySem.F.slot_list_extend PySem.F.type_list_extend mt_extend n.pe (pa_cons a1 pa_nil hs) rfl ln.hfew ln.hline hs rfl) rfl, fun p0 H0 G0 H G s env σ Q x h => ?_⟩
  rw [run] at h
  have h := W_bind.mp h
  have isL : ∀ d o s (R : D → Strm → Prop), W (extD o d) s R → ∃ ds, o = .lst true ds := by
    intro d o s R q
    unfold extD at q
    split at q
    · exact ⟨_, rfl⟩
    · exact q.elim
  obtain ⟨d0, s0, q0⟩ := W_ex h
  obtain ⟨ds, e1, _⟩ := lst_look (isL d0) q0
  obtain ⟨fe, re, nn, f0⟩ := x.env
  obtain ⟨p1, vs, f, es, hp, rs, nf, npf, pin, sub, nG, wr⟩ := own_write x re nn f0 e1
  refine ⟨_, es, .inl ⟨rfl, _, SqL.of hp⟩, a2 p0 H0 G0 H G s env σ _ x (W_mono h fun d s1 q H1 G1 v fp g1 x1 r1 ef => ?_)⟩
  obtain ⟨ds', e1', q⟩ := lst_look (isL d) q
  rw [e1] at e1'
  cases e1'
  have ko : ∃ o' es', d = .lst o' es' := by
    unfold extD at q
    split at q
    · exact ⟨_, _, rfl⟩
    · exact q.elim
  obtain ⟨o', es', rfl⟩ := ko
  · obtain ⟨c, q⟩ := W_guard.mp (W_bind.mp (show W (guardM (ds.length + es'.length ≤ LIM) >>= fun _ => pure (D.lst true (ds ++ es'))) s1 _ from q))
    have q : PostS C X p0 H0 G0 H G Q (.nx (setE env i (.lst true (ds ++ es')))) s1 := q
    obtain ⟨p3, vs3, f3, rfl, hp3, _, rs3, nf3, fr3⟩ := ef.2 _ _ rfl
    have re1 := re.grow x.pl g1
    obtain ⟨p2, vs2, f2, es2, hp2, rs2, nf2, npf2, pin2, sub2, nG2, wr2⟩ := own_write x1 re1 nn f0 e1
    rw [es] at es2
    cases es2
    have dis := not_in_env re fr3
    refine ⟨p1, p3, vs2, vs3, rfl, rfl, hp2, hp3, by rw [← rs2.length, ← rs3.length]; exact lim_size c, ?_⟩
    obtain ⟨fq, _, _, _, x3, ev3⟩ := wr2 (ds ++ es') (vs2 ++ vs3) (f2 ++ f3) (Reps.append rs2 rs3) (nodup_app.mpr ⟨nf2, nf3, fun a h1 h2 => dis a h2 (sub2 a h1)⟩) fun a ha => by
      rcases List.mem_append.mp ha with z | z
      · exact ⟨.inl z, f0 a (sub2 a z)⟩
      · exact ⟨.inr (dis a z), grow_none x.grow x.pl (fr3 a z)⟩
    exact q _ _ σ (g1.evo.trans ev3) x3
theorem split_apart {K : PySem.W.Frag} : ∀ {ds : List D} {vs : List V} {f : List Addr} (n : Nat), Reps K C p0 H G ds vs f → f.Nodup → ∃ ft fd, Reps K C p0 H G (ds.take n) (vs.take n) ft ∧ Reps K C p0 H G (ds.drop n) (vs.drop n) fd ∧ f = ft ++ fd
  | [], _, _, n, r, _ => by
    obtain ⟨rfl, rfl⟩ := Reps.nil_iff.mp r
    exact ⟨[], [], by simpa using r, by simpa using r, rfl⟩
  | d :: ds, _, f, 0, r, _ => ⟨[], f, Reps.nil, r, rfl⟩
  | d :: ds, _, _, n + 1, r, nd => by
    obtain ⟨v, r', f, g, rfl, rfl, a, b⟩ := Reps.cons_iff.mp r
    obtain ⟨ft, fd, h1, h2, rfl⟩ := split_apart n b (nodup_app.mp nd).2.1
    exact ⟨f ++ ft, fd, by simpa using Reps.cons a h1, by simpa using h2, by rw [List.append_assoc]⟩
theorem ss_ins {i : Nat} {x : Str} {mk me : ME} {ek e : Expr} {px apos cpos : Pos} (n : Nm X i x) (hk : SE C Γ k X .v mk ek) (he : SE C Γ k X .v me e) (hs : starEach (ek :: [e]) X.env = (false, eval ek X.env) :: starEach [e] X.env) (hs2 : starEach (e :: []) X.env = (false, eval e X.env) :: starEach [] X.env)
    (hpl : (backTo cpos (starEach [e] X.env)).any (·.1) = false) (ln : Ln X [ek, e] apos cpos) :
    SS C Γ k X (.ins i mk me) (.Expr (.Call (.Attribute (.Name x px) "insert" apos) [ek, e] [] cpos) pos) := by
  obtain ⟨tk, b1, b2⟩ := hk
  obtain ⟨te, a1, a2⟩ := he
  refine ⟨_, ps_expr (pe_bm PySem.F.plainAttrs_list PySem.F.slot_list_insert PySem.F.type_list_insert mt_insert n.pe (pa_cons b1 (pa_cons a1 pa_nil hs2) hs) rfl ln.hfew ln.hline hs hpl) rfl, fun p0 H0 G0 H G s env σ Q x h => ?_⟩
  rw [run] at h
  have h := W_bind.mp h
  have isL : ∀ kd d o s (R : D → Strm → Prop), W (insD o kd d) s R → ∃ ds, o = .lst true ds := by
    intro kd d o s R q
    unfold insD at q
    split at q
    · exact ⟨_, rfl⟩
    · exact q.elim
  obtain ⟨k0, s0, q0⟩ := W_ex h
  obtain ⟨d0, s0', q0⟩ := W_ex (W_bind.mp q0)
  obtain ⟨ds, e1, _⟩ := lst_look (isL k0 d0) q0
  obtain ⟨fe, re, nn, f0⟩ := x.env
  obtain ⟨p1, vs, f, es, hp, rs, nf, npf, pin, sub, nG, wr⟩ := own_write x re nn f0 e1
  refine ⟨_, es, .inl ⟨rfl, _, SqL.of hp⟩, b2 p0 H0 G0 H G s env σ _ x (W_mono h fun kd s1 q H1 G1 kv fk g1 x1 r1 z1 => a2 p0 H0 G0 H1 G1 s1 env σ _ x1 (W_mono (W_bind.mp q) fun d s2 q H2 G2 v fv g2 x2 r2 z2 => ?_))⟩
  obtain ⟨ds', e1', q⟩ := lst_look (isL kd d) q
  rw [e1] at e1'
  cases e1'
  have ko : ∃ i0, kd = .int i0 := by
    unfold insD at q
    split at q
    · exact ⟨_, rfl⟩
    · exact q.elim
  obtain ⟨i0, rfl⟩ := ko
  · obtain ⟨⟨c1, c2, c3⟩, q⟩ := W_guard.mp (W_bind.mp (show W (guardM (ds.length < LIM ∧ 0 ≤ i0 ∧ i0 ≤ ds.length) >>= fun _ => pure (D.lst true (insAt ds i0 d))) s2 _ from q))
    have q : PostS C X p0 H0 G0 H G Q (.nx (setE env i (.lst true (insAt ds i0 d)))) s2 := q
    obtain ⟨nv, fr⟩ := z2 rfl
    have fr : ∀ a ∈ fv, H a = none := fun a ha => grow_none g1 x1.pl (fr a ha)
    have re2 := re.grow x.pl (g1.trans g2)
    obtain ⟨p2, vs2, f2, es2, hp2, rs2, nf2, npf2, pin2, sub2, nG2, wr2⟩ := own_write x2 re2 nn f0 e1
    rw [es] at es2
    cases es2
    have dis := not_in_env re fr
    rw [int_of r1]
    have c4 : (ds.length : Int) < 1000000 := by have : ds.length < 1000000 := c1; omega
    refine ⟨p1, vs2, i0, v, rfl, rfl, hp2, by rw [← rs2.length]; exact lim_size' c1, c2, by omega, ?_⟩
    obtain ⟨ft, fd, t1, d1, rfl⟩ := split_apart i0.toNat rs2 nf2
    obtain ⟨n3, n4, tdis⟩ := nodup_app.mp nf2
    have t2 : ∀ a ∈ ft, a ∈ ft ++ fd := fun a h => List.mem_append_left _ h
    have d2 : ∀ a ∈ fd, a ∈ ft ++ fd := fun a h => List.mem_append_right _ h
    obtain ⟨fq, _, _, _, x3, ev3⟩ := wr2 (insAt ds i0 d) (vs2.take i0.toNat ++ [v] ++ vs2.drop i0.toNat) (ft ++ (fv ++ fd)) (by
      unfold insAt
      rw [List.append_assoc]
      exact Reps.append t1 (Reps.cons r2 d1)) (nodup_app.mpr ⟨n3, nodup_app.mpr ⟨nv, n4, fun a h1 h2 => dis a h1 (sub2 a (d2 a h2))⟩, fun a h1 h2 => by
        rcases List.mem_append.mp h2 with z | z
        · exact dis a z (sub2 a (t2 a h1))
        · exact tdis a h1 z⟩) fun a ha => by
      rcases List.mem_append.mp ha with z | z
      · exact ⟨.inl (t2 a z), f0 a (sub2 a (t2 a z))⟩
      · rcases List.mem_append.mp z with z | z
        · exact ⟨.inr (dis a z), grow_none x.grow x.pl (fr a z)⟩
        · exact ⟨.inl (d2 a z), f0 a (sub2 a (d2 a z))⟩
    exact q _ _ σ ((g1.trans g2).evo.trans ev3) x3
theorem ss_pop {t i : Nat} {x y : Str} {m : ME} {e : Expr} {px py apos cpos : Pos} (n : Nm X i x) (he : SE C Γ k X .v m e) (hs : starEach (e :: []) X.env = (false, eval e X.env) :: starEach [] X.env) (ln : Ln X [e] apos cpos) (hg : PG X (.Name y py) (gT X.K (.nm t))) :
    SS C Γ k X (.pop t i m) (.Assign [.Name y py] (.Call (.Attribute (.Name x px) "pop" apos) [e] [] cpos) pos) := by
  obtain ⟨te, a1, a2⟩ := he
  refine ⟨_, ps_asg (pe_bm PySem.F.plainAttrs_list PySem.F.slot_list_pop PySem.F.type_list_pop mt_popAt n.pe (pa_cons a1 pa_nil hs) rfl ln.hfew ln.hline hs rfl) hg rfl rfl rfl, fun p0 H0 G0 H G s env σ Q x h => ?_⟩
  rw [run] at h
  have h := W_bind.mp h
  have isL : ∀ kd o s (R : D × D → Strm → Prop), W (popD o kd) s R → ∃ ds i0, o = .lst true ds ∧ kd = .int i0 := by
    intro kd o s R q
    unfold popD at q
    split at q
    · exact ⟨_, _, rfl, rfl⟩
    · exact q.elim
  obtain ⟨k0, s0, q0⟩ := W_ex h
  obtain ⟨o, e1, q0⟩ := getE_sem (W_bind.mp q0)
  obtain ⟨ds, _, rfl, _⟩ := isL _ _ _ _ (W_bind.mp q0)
  obtain ⟨fe, re, nn, f0⟩ := x.env
  obtain ⟨p1, vs, f, es, hp, rs, nf, npf, pin, sub, nG, wr⟩ := own_write x re nn f0 e1
  refine ⟨_, es, .inl ⟨rfl, _, SqL.of hp⟩, a2 p0 H0 G0 H G s env σ _ x (W_mono h fun kd s1 q H1 G1 kv fk g1 x1 r1 z1 => ?_)⟩
  obtain ⟨o', e1', q⟩ := getE_sem (W_bind.mp q)
  rw [e1] at e1'
  cases e1'
  obtain ⟨_, i0, hds, rfl⟩ := isL _ _ _ _ (W_bind.mp q)
  cases hds
  have q := W_bind.mp q
  obtain ⟨c, q⟩ := W_guard.mp (W_bind.mp (show W (guardM (ds.length ≤ LIM) >>= fun _ => ofO (pix ds.length i0) >>= fun j => ofO ds[j]? >>= fun d => pure (d, D.lst true (ds.eraseIdx j))) s1 _ from q))
  obtain ⟨j, hj, q⟩ := W_ofO.mp (W_bind.mp q)
  obtain ⟨d, hd, q⟩ := W_ofO.mp (W_bind.mp q)
  have q : PostS C X p0 H0 G0 H G Q (.nx (setE (setE env i (.lst true (ds.eraseIdx j))) t d)) s1 := q
  have re1 := re.grow x.pl g1
  obtain ⟨p2, vs2, f2, es2, hp2, rs2, nf2, npf2, pin2, sub2, nG2, wr2⟩ := own_write x1 re1 nn f0 e1
  rw [es] at es2
  cases es2
  obtain ⟨w, fw, hw, rw', subw, nw, _, _, fq, q1, q2, q3⟩ := rs2.repl nf2 hd
  obtain ⟨fr, u1, u2, u3, x3, ev3⟩ := wr2 (ds.eraseIdx j) (vs2.eraseIdx j) fq q1 q2 fun a ha => ⟨.inl (q3 a ha).1, f0 a (sub2 a (q3 a ha).1)⟩
  rw [int_of r1]
  have sq := ixN_seq (show ixN ds.length i0 = some j from hj)
  have cl : ds.length ≤ 1000000 := c
  refine ⟨p1, vs2, i0, j, w, rfl, rfl, hp2, by omega, by omega, by rw [← rs2.length]; exact sq.1, hw, ?_⟩
  have npw : p1 ∉ fw := fun z => npf2 (subw _ z)
  refine tg_sem (H0 := H0) (.nm t) (R := fun env' s' => env' = setE (setE env i (.lst true (ds.eraseIdx j))) t d ∧ s' = s1) (s := s1) (Q := Q.nx) (d := d) ⟨fr, fw ++ [], u1, Reps.cons (Rep.wrt hp2 nG2 rw' npw) Reps.nil, ?_, fun a ha => ?_⟩ ⟨rfl, rfl⟩ fun env' σ' q' e => ?_
  · rw [List.append_nil]
    refine nodup_app.mpr ⟨u2, nw, fun a h1 h2 => ?_⟩
    rcases u3 a h1 with rfl | z | z
    · exact npw h2
    · exact (q3 a z).2 h2
    · exact z.2 (subw a h2)
  · rw [List.append_nil] at ha
    rcases List.mem_append.mp ha with z | z
    · rcases u3 a z with rfl | z | z
      · exact f0 _ pin
      · exact f0 a (sub2 a (q3 a z).1)
      · exact f0 a z.1
    · exact f0 a (sub2 a (subw a z))
  · rw [q'.1] at e
    exact q _ _ σ' (g1.evo.trans ev3) (x3.envs e)
theorem ss_appm {i l : Nat} {x y : Str} {px py apos cpos : Pos} (n : Nm X i x) (m : Nm X l y) (hs : starEach ((Expr.Name y py) :: []) X.env = (false, eval (.Name y py) X.env) :: starEach [] X.env)
    (hfew : ((backTo cpos (starEach ((Expr.Name y py) :: []) X.env)).all (fun x => !x.1) && (backToKw cpos (keywordEach [] X.env)).all (fun x => x.1.isSome) && decide (((Expr.Name y py) :: ([] : List Expr)).length + ([] : List Keyword).length + (if ([] : List Keyword).isEmpty then 0 else 1) < 30)) = true) (hline : (apos.endLine == cpos.line) = true) :
    SS C Γ k X (.appm i l) (.Expr (.Call (.Attribute (.Name x px) "append" apos) [.Name y py] [] cpos) pos) := by
  refine ⟨_, ps_expr (pe_bm PySem.F.plainAttrs_list PySem.F.slot_list_append PySem.F.type_list_append mt_append n.pe (pa_cons m.pe pa_nil hs) rfl hfew hline hs rfl) rfl, fun p0 H0 G0 H G s env σ Q x h => ?_⟩
  rw [run] at h
  obtain ⟨d, e, q⟩ := getE_sem (W_bind.mp h)
  obtain ⟨o, e1, q⟩ := getE_sem (W_bind.mp q)
  have q := W_bind.mp q
  unfold appD at q
  split at q
  · rename_i ds _
    obtain ⟨fe, re, nn, f0⟩ := x.env
    obtain ⟨v, f, el, r, sub, nf, _, _, fq, q1, q2, q3⟩ := re.repl nn e
    have f0' : ∀ a ∈ fq, H0 a = none := fun a ha => f0 a (q3 a ha).1
    have x' : StX X.K C p0 H0 G0 H G s (env.set l none) σ := ⟨x.grow, x.strm, x.gs, fq, q1, q2, f0'⟩
    obtain ⟨p1, vs, f1, es, hp, rs, nf1, npf, pin, sub1, nG, wr⟩ := own_write x' q1 q2 f0' e1
    obtain ⟨c, q⟩ := W_guard.mp (W_bind.mp q)
    have q : PostS C X p0 H0 G0 H G Q (.nx (setE (env.set l none) i (.lst true (ds ++ [d])))) s := q
    refine ⟨_, es, .inl ⟨rfl, _, SqL.of hp⟩, v, el, ?_⟩
    refine ⟨p1, vs, v, rfl, rfl, hp, by rw [← rs.length]; exact lim_size' c, ?_⟩
    have dis : ∀ a ∈ f, a ∉ fq := fun a ha hb => (q3 a hb).2 ha
    obtain ⟨fr, _, _, _, x3, ev3⟩ := wr (ds ++ [d]) (vs ++ [v]) (f1 ++ (f ++ [])) (Reps.append rs (Reps.cons r Reps.nil)) (by
      rw [List.append_nil]
      exact nodup_app.mpr ⟨nf1, nf, fun a h1 h2 => dis a h2 (sub1 a h1)⟩) fun a ha => by
        rw [List.append_nil] at ha
        rcases List.mem_append.mp ha with z | z
        · exact ⟨.inl z, f0' a (sub1 a z)⟩
        · exact ⟨.inr (dis a z), f0 a (sub a z)⟩
    exact q _ _ σ ev3 x3
  · exact q.elim
theorem ss_mv {i l : Nat} {x y : Str} {px py : Pos} (n : Nm X l x) (hg : PG X (.Name y py) (gT X.K (.nm i))) : SS C Γ k X (.mv i l) (.Assign [.Name y py] (.Name x px) pos) := by
  refine ⟨_, ps_asg n.pe hg rfl rfl rfl, fun p0 H0 G0 H G s env σ Q x h => ?_⟩
  rw [run] at h
  obtain ⟨d, e, q⟩ := getE_sem (W_bind.mp h)
  have q : PostS C X p0 H0 G0 H G Q (.nx (setE (env.set l none) i d)) s := q
  obtain ⟨fe, re, nn, f0⟩ := x.env
  obtain ⟨v, f, e1, r, sub, nf, _, _, fq, q1, q2, q3⟩ := re.repl nn e
  refine ⟨v, e1, ?_⟩
  refine tg_sem (H0 := H0) (.nm i) (R := fun env' s' => env' = setE (env.set l none) i d ∧ s' = s) (s := s) (Q := Q.nx) (d := d) ⟨fq, f ++ [], q1, Reps.cons r Reps.nil, ?_, fun a ha => ?_⟩ ⟨rfl, rfl⟩ fun env' σ' q' e => ?_
  · rw [List.append_nil]
    exact nodup_app.mpr ⟨q2, nf, fun a h1 h2 => (q3 a h1).2 h2⟩
  · rw [List.append_nil] at ha
    rcases List.mem_append.mp ha with z | z
    · exact f0 a (q3 a z).1
    · exact f0 a (sub a z)
  · rw [q'.1] at e
    exact q _ _ σ' Grow.rfl'.evo (x.envs e)
/-! ### the rows of a list of one's own are spoilt -/
theorem RepE.put {K : PySem.W.Frag} : ∀ {env : En} {σ : L2.St} {fp : List Addr} {t : Nat} {x : Option V}, RepE K C p0 H G env σ fp → env[t]? = some none → RepE K C p0 H G env (σ.set t x) fp
  | [], _, _, _, _, _, e => by simp at e
  | none :: env, _, _, 0, y, r, _ => by
    obtain ⟨x, r', rfl, a⟩ := RepE.none_iff.mp r
    exact RepE.none_iff.mpr ⟨y, r', rfl, a⟩
  | some d :: env, _, _, 0, _, _, e => by simp at e
  | none :: env, _, _, t + 1, y, r, e => by
    obtain ⟨x, r', rfl, a⟩ := RepE.none_iff.mp r
    exact RepE.none_iff.mpr ⟨x, _, rfl, a.put (by simpa using e)⟩
  | some d :: env, _, _, t + 1, y, r, e => by
    obtain ⟨v, r', f, g, rfl, rfl, a, b⟩ := RepE.some_iff.mp r
    exact RepE.some_iff.mpr ⟨v, _, f, g, rfl, rfl, a, b.put (by simpa using e)⟩
theorem row_spoil {i : Nat} {ds xs : List D} {d0 : D} (x : StX X.K C p0 H0 G0 H G s env σ) (e1 : env[i]? = some (some (.lst true ds))) (hjr : ds[j]? = some (.lst true (d0 :: xs))) :
    ∃ p1 vs q1 w0 ws, σ[i]? = some (some (.ref p1)) ∧ H p1 = some (.lst vs) ∧ vs.length = ds.length ∧ vs[j]? = some (.ref q1) ∧ H q1 = some (.lst (w0 :: ws)) ∧ ws.length = xs.length ∧
      StX X.K C p0 H0 G0 (upd H q1 (.lst (.non :: (ws ++ [.int 0])))) G s (setE env i (.lst true (ds.set j (.lst true (.non :: (xs ++ [.int 0])))))) σ ∧ Evo p0 H G (upd H q1 (.lst (.non :: (ws ++ [.int 0])))) G := by
  obtain ⟨fe, re, nn, fe0⟩ := x.env
  obtain ⟨v3, f3, e3, rr3, sub3, n3, h3, _⟩ := re.repl nn e1
  obtain ⟨p1, vs, f', rfl, hp3, np3, rs3, nG3, rfl, npf3, nf3⟩ := own_of rr3 n3
  obtain ⟨iv3, fi3, hiv3, ri3, subi3, ni3, k3, _, _⟩ := rs3.repl nf3 hjr
  obtain ⟨q1, ws', g', rfl, hq3, npq3, rq3, nGq3, rfl, nqg3, ng3⟩ := own_of ri3 ni3
  obtain ⟨w0, ws, f0, g, rfl, rfl, r0, rq⟩ := Reps.cons_iff.mp rq3
  have gsub : ∀ a ∈ g, a ∈ f' := fun a ha => subi3 a (List.mem_cons_of_mem _ (List.mem_append_right _ ha))
  have qin : q1 ∈ f' := subi3 q1 List.mem_cons_self
  have qfe : q1 ∈ fe := sub3 q1 (List.mem_cons_of_mem _ qin)
  have nqg : q1 ∉ g := fun z => nqg3 (List.mem_append_right _ z)
  have ng : g.Nodup := (nodup_app.mp ng3).2.1
  have rn : Reps X.K C p0 H G (.non :: (xs ++ [.int 0])) (.non :: (ws ++ [.int 0])) g := by
    have := Reps.cons (non_rep (K := X.K) (C := C) (p0 := p0) (H := H) (G := G)) (Reps.append rq (Reps.cons (int_rep (i := 0)) Reps.nil))
    simpa using this
  have rin : Rep X.K C p0 (upd H q1 (.lst (.non :: (ws ++ [.int 0])))) G (.lst true (.non :: (xs ++ [.int 0]))) (.ref q1) (q1 :: g) := by
    rw [Rep]
    exact ⟨q1, _, g, rfl, upd_same, npq3, Reps.wrt hq3 nGq3 rn nqg, .inl ⟨rfl, nGq3, rfl⟩⟩
  obtain ⟨fq, w1, w2, w3⟩ := k3 q1 (w0 :: ws) (.non :: (ws ++ [.int 0])) _ (q1 :: g) List.mem_cons_self hq3 nGq3 rin (List.nodup_cons.mpr ⟨nqg, ng⟩) fun a ha => by
    rcases List.mem_cons.mp ha with rfl | ha
    · exact .inl List.mem_cons_self
    · exact .inl (List.mem_cons_of_mem _ (List.mem_append_right _ ha))
  have w3' : ∀ a ∈ fq, a ∈ f' := fun a ha => by
    rcases w3 a ha with y | y
    · rcases List.mem_cons.mp y with rfl | y
      · exact qin
      · exact gsub a y
    · exact y.1
  have npq1 : p1 ≠ q1 := fun z => npf3 (z ▸ qin)
  have npfq : p1 ∉ fq := fun z => npf3 (w3' p1 z)
  have rout : Rep X.K C p0 (upd H q1 (.lst (.non :: (ws ++ [.int 0])))) G (.lst true (ds.set j (.lst true (.non :: (xs ++ [.int 0]))))) (.ref p1) (p1 :: fq) := by
    rw [Rep]
    exact ⟨p1, _, fq, rfl, by rw [upd_ne npq1]; exact hp3, np3, w1, .inl ⟨rfl, nG3, rfl⟩⟩
  obtain ⟨fr, t1, t2, t3⟩ := h3 q1 (w0 :: ws) (.non :: (ws ++ [.int 0])) _ (p1 :: fq) (List.mem_cons_of_mem _ qin) hq3 nGq3 rout (List.nodup_cons.mpr ⟨npfq, w2⟩) fun a ha => by
    rcases List.mem_cons.mp ha with rfl | ha
    · exact .inl List.mem_cons_self
    · exact .inl (List.mem_cons_of_mem _ (w3' a ha))
  refine ⟨p1, vs, q1, w0, ws, e3, hp3, rs3.length.symm, hiv3, hq3, rq.length.symm, ⟨x.grow.wrt (fe0 q1 qfe), x.strm.wrt hq3 npq3 nGq3, gs_wrt x.gs hq3, fr, t1, t2, fun a ha => ?_⟩, ⟨fun y o ny hy z => ?_, fun _ h => h⟩⟩
  · rcases t3 a ha with y | y
    · rcases List.mem_cons.mp y with rfl | y
      · exact fe0 _ (sub3 _ List.mem_cons_self)
      · exact fe0 a (sub3 a (List.mem_cons_of_mem _ (w3' a y)))
    · exact fe0 a y.1
  · have : y ≠ q1 := fun e => by
      subst e
      rcases z with z | z
      · exact nGq3 z
      · rw [hq3] at hy
        exact z _ (Option.some.inj hy).symm
    rw [upd_ne this]
    exact hy
theorem spoilL_len : ∀ {ds rs : List D}, spoilL ds = some rs → rs.length = ds.length
  | [], rs, h => by cases h; rfl
  | d :: ds, rs, h => by
    rw [spoilL] at h
    split at h
    · rename_i a b _ hb
      cases h
      rw [List.length_cons, List.length_cons, spoilL_len hb]
    · cases h
theorem spoilL_get : ∀ {ds rs : List D} {j : Nat} {d : D}, spoilL ds = some rs → ds[j]? = some d → ∃ r, rs[j]? = some r ∧ spoil1 d = some r
  | [], _, _, _, _, e => by simp at e
  | d :: ds, rs, j, x, h, e => by
    rw [spoilL] at h
    split at h
    · rename_i a b ha hb
      cases h
      cases j with
      | zero =>
        have e' : d = x := by simpa using e
        subst e'
        exact ⟨a, rfl, ha⟩
      | succ j => exact spoilL_get hb (j := j) (by simpa using e)
    · cases h
theorem upd_twice {q : Addr} {xs ys : List V} : upd (upd H q (.lst xs)) q (.lst ys) = upd H q (.lst ys) := by
  funext y
  unfold upd
  split <;> rfl
theorem ss_spoil (g : Gd C Γ Gs k X) {t i : Nat} {x y z : Str} {px py pz ps1 ps2 apos cpos pe : Pos} {k0 k1 k2 : Nat} {c0 c1 c2 : Pos} {tg : Expr} (ni : Nm X i y) (nt : Nm X t x) (nz : Nm X t z) (hg : PG X tg (gT X.K (.nm t))) (hline : (apos.endLine == cpos.line) = true) :
    SS C Γ k X (.spoil t i) (.For tg (.Name y py) [.Assign [.Subscript (.Name x px) (.Constant (.int 0) k0 c0) ps1] (.Constant .none k1 c1) ps2, .Expr (.Call (.Attribute (.Name z pz) "append" apos) [.Constant (.int 0) k2 c2] [] cpos) pe] [] pos) := by
  refine ⟨_, ps_for g.po g.calm (pi_seq ni.pe) hg (pss_cons (ps_asg pe_non (pg_sub nt.pe pe_int set_list) rfl rfl rfl) (pss_cons (ps_expr (pe_bm PySem.F.plainAttrs_list PySem.F.slot_list_append PySem.F.type_list_append mt_append nz.pe (pa_cons pe_int pa_nil rfl) rfl rfl hline rfl rfl) rfl) pss_nil)) (fun _ => rfl), fun p0 H0 G0 H G s env σ Q x h => ?_⟩
  rw [run] at h
  obtain ⟨⟨hti, htl⟩, h⟩ := W_guard.mp (W_bind.mp h)
  obtain ⟨o, e1, q⟩ := getE_sem (W_bind.mp h)
  have q := W_bind.mp q
  unfold spoilD at q
  split at q
  · rename_i ds _
    obtain ⟨rs, er, q⟩ := W_ofO.mp (W_bind.mp q)
    have q : PostS C X p0 H0 G0 H G Q (.nx (setE (env.set t none) i (.lst true rs))) s := q
    have xk : StX X.K C p0 H0 G0 H G s (env.set t none) σ := x.kill [t]
    have e1' : (env.set t none)[i]? = some (some (.lst true ds)) := by rw [List.getElem?_set_ne hti]; exact e1
    have hil : i < (env.set t none).length := (List.getElem?_eq_some_iff.mp e1').1
    have hrl := spoilL_len er
    obtain ⟨fe, re, nn, fe0⟩ := xk.env
    obtain ⟨p1, vs, f, es, hp, rs1, nf, npf, pin, sub, nG, _⟩ := own_write xk re nn fe0 e1'
    refine ⟨_, es, p1, rfl, .inl ⟨⟨_, SqL.of hp⟩, ?_⟩⟩
    let Inv : Nat → L2.St → Hp → Prop := fun j σ' Hi => Evo p0 H G Hi G ∧ σ'[i]? = some (some (.ref p1)) ∧ StX X.K C p0 H0 G0 Hi G s (setE (env.set t none) i (.lst true (rs.take j ++ ds.drop j))) σ'
    refine ⟨fun j mm σ' Hi => mm = ds.length - j ∧ j ≤ ds.length ∧ Inv j σ' Hi, ⟨ds.length, by simp, Nat.zero_le _, Grow.rfl'.evo, es, ?_⟩, ?_⟩
    · have : setE (env.set t none) i (.lst true (rs.take 0 ++ ds.drop 0)) = env.set t none := by
        unfold setE
        apply List.ext_getElem?
        intro l
        by_cases hl : i = l
        · subst hl
          rw [List.getElem?_set_self hil, e1']
          rfl
        · rw [List.getElem?_set_ne hl]
      rw [this]
      exact xk
    · rintro j mm σ' Hi ⟨rfl, hle, ei, esi, xi⟩
      have ej : (setE (env.set t none) i (.lst true (rs.take j ++ ds.drop j)))[i]? = some (some (.lst true (rs.take j ++ ds.drop j))) := by
        unfold setE
        rw [List.getElem?_set_self hil]
      by_cases hlt : j < ds.length
      · obtain ⟨r, hr, hs⟩ := spoilL_get er (List.getElem?_eq_getElem hlt)
        have hdj : ∃ d0 xs, ds[j] = .lst true (d0 :: xs) ∧ xs.length + 1 < LIM ∧ r = .lst true (.non :: (xs ++ [.int 0])) := by
          generalize ds[j] = d at hs
          unfold spoil1 at hs
          split at hs
          · split at hs
            · rename_i hl
              cases hs
              exact ⟨_, _, rfl, hl, rfl⟩
            · cases hs
          · cases hs
        obtain ⟨d0, xs, hd, hxl, rfl⟩ := hdj
        have hlen : (rs.take j).length = j := by rw [List.length_take]; omega
        have hrow : (rs.take j ++ ds.drop j)[j]? = some (.lst true (d0 :: xs)) := by
          rw [List.getElem?_append_right (by omega), hlen, Nat.sub_self, List.getElem?_drop, Nat.add_zero, List.getElem?_eq_getElem hlt, hd]
        obtain ⟨p2, vs2, q1, w0, ws, es2, hp2, hl2, hv2, hq2, hw2, x3, ev3⟩ := row_spoil xi ej hrow
        rw [esi] at es2
        cases es2
        refine .inr ⟨⟨vs2, _, SqL.of hp2, hv2⟩, Inv (j + 1), fun σ2 H2 n => ⟨ds.length - (j + 1), by omega, rfl, hlt, n⟩, fun v H3 hy => ?_⟩
        obtain ⟨rfl, hy⟩ := hy
        have := hy vs2 (SqL.of hp2)
        rw [hv2] at this
        cases this
        have hsl : t < σ'.length := by
          obtain ⟨_, re', _⟩ := xi.env
          rw [← re'.length]
          unfold setE
          rw [List.length_set, List.length_set]
          exact htl
        have est : (σ'.set t (some (.ref q1)))[t]? = some (some (.ref q1)) := List.getElem?_set_self hsl
        refine ⟨_, est, ⟨q1, w0 :: ws, 0, 0, rfl, rfl, hq2, (by
          rw [List.length_cons]
          unfold ixN
          rw [if_pos (Int.le_refl 0), if_pos (by omega)]
          rfl), ?_⟩⟩
        refine ⟨_, est, .inl ⟨rfl, _, SqL.of upd_same⟩, ⟨q1, _, .int 0, rfl, rfl, upd_same, ?_, ?_⟩⟩
        · rw [List.length_set, List.length_cons, hw2]
          exact lim_size' hxl
        · rw [upd_twice]
          have eset : (rs.take j ++ ds.drop j).set j (.lst true (.non :: (xs ++ [.int 0]))) = rs.take (j + 1) ++ ds.drop (j + 1) := by
            rw [List.set_append_right _ _ (by omega), hlen, Nat.sub_self, List.drop_eq_getElem_cons hlt, List.set_cons_zero, List.take_add_one, hr]
            simp
          rw [eset] at x3
          refine ⟨ei.trans ev3, by rw [List.getElem?_set_ne hti]; exact esi, ?_⟩
          have ee : setE (setE (env.set t none) i (.lst true (rs.take j ++ ds.drop j))) i (.lst true (rs.take (j + 1) ++ ds.drop (j + 1))) = setE (env.set t none) i (.lst true (rs.take (j + 1) ++ ds.drop (j + 1))) := by
            unfold setE
            rw [List.set_set]
          rw [ee] at x3
          obtain ⟨fr, r1, r2, r3⟩ := x3.env
          exact x3.envs ⟨fr, r1.put (by
            unfold setE
            rw [List.getElem?_set_ne (Ne.symm hti), List.getElem?_set_self htl]), r2, r3⟩
      · have : j = ds.length := by omega
        subst this
        rw [List.drop_length, List.append_nil, List.take_of_length_le (by omega)] at xi ej
        obtain ⟨fe2, re2, nn2, fe02⟩ := xi.env
        obtain ⟨p2, vs2, _, es2, hp2, rs2, _⟩ := own_write xi re2 nn2 fe02 ej
        rw [esi] at es2
        cases es2
        exact .inl ⟨⟨vs2, SqL.of hp2, by rw [← rs2.length]; omega⟩, q Hi G σ' ei xi⟩
  · exact q.elim
theorem row_app0 {i : Nat} {ds xs : List D} (x : StX X.K C p0 H0 G0 H G s env σ) (e1 : env[i]? = some (some (.lst true ds))) (hjr : ds[j]? = some (.lst true xs)) :
    ∃ p1 vs q1 ws, σ[i]? = some (some (.ref p1)) ∧ H p1 = some (.lst vs) ∧ vs.length = ds.length ∧ vs[j]? = some (.ref q1) ∧ H q1 = some (.lst ws) ∧ ws.length = xs.length ∧
      StX X.K C p0 H0 G0 (upd H q1 (.lst (ws ++ [.int 0]))) G s (setE env i (.lst true (ds.set j (.lst true (xs ++ [.int 0]))))) σ ∧ Evo p0 H G (upd H q1 (.lst (ws ++ [.int 0]))) G := by
  obtain ⟨fe, re, nn, fe0⟩ := x.env
  obtain ⟨v3, f3, e3, rr3, sub3, n3, h3, _⟩ := re.repl nn e1
  obtain ⟨p1, vs, f', rfl, hp3, np3, rs3, nG3, rfl, npf3, nf3⟩ := own_of rr3 n3
  obtain ⟨iv3, fi3, hiv3, ri3, subi3, ni3, k3, _, _⟩ := rs3.repl nf3 hjr
  obtain ⟨q1, ws, g, rfl, hq3, npq3, rq, nGq3, rfl, nqg, ng⟩ := own_of ri3 ni3
  have gsub : ∀ a ∈ g, a ∈ f' := fun a ha => subi3 a (List.mem_cons_of_mem _ ha)
  have qin : q1 ∈ f' := subi3 q1 List.mem_cons_self
  have qfe : q1 ∈ fe := sub3 q1 (List.mem_cons_of_mem _ qin)
  have rn : Reps X.K C p0 H G (xs ++ [.int 0]) (ws ++ [.int 0]) g := by
    have := Reps.append rq (Reps.cons (int_rep (K := X.K) (C := C) (p0 := p0) (H := H) (G := G) (i := 0)) Reps.nil)
    simpa using this
  have rin : Rep X.K C p0 (upd H q1 (.lst (ws ++ [.int 0]))) G (.lst true (xs ++ [.int 0])) (.ref q1) (q1 :: g) := by
    rw [Rep]
    exact ⟨q1, _, g, rfl, upd_same, npq3, Reps.wrt hq3 nGq3 rn nqg, .inl ⟨rfl, nGq3, rfl⟩⟩
  obtain ⟨fq, w1, w2, w3⟩ := k3 q1 ws (ws ++ [.int 0]) _ (q1 :: g) List.mem_cons_self hq3 nGq3 rin (List.nodup_cons.mpr ⟨nqg, ng⟩) fun a ha => by
    rcases List.mem_cons.mp ha with rfl | ha
    · exact .inl List.mem_cons_self
    · exact .inl (List.mem_cons_of_mem _ ha)
  have w3' : ∀ a ∈ fq, a ∈ f' := fun a ha => by
    rcases w3 a ha with y | y
    · rcases List.mem_cons.mp y with rfl | y
      · exact qin
      · exact gsub a y
    · exact y.1
  have npq1 : p1 ≠ q1 := fun z => npf3 (z ▸ qin)
  have npfq : p1 ∉ fq := fun z => npf3 (w3' p1 z)
  have rout : Rep X.K C p0 (upd H q1 (.lst (ws ++ [.int 0]))) G (.lst true (ds.set j (.lst true (xs ++ [.int 0])))) (.ref p1) (p1 :: fq) := by
    rw [Rep]
    exact ⟨p1, _, fq, rfl, by rw [upd_ne npq1]; exact hp3, np3, w1, .inl ⟨rfl, nG3, rfl⟩⟩
  obtain ⟨fr, t1, t2, t3⟩ := h3 q1 ws (ws ++ [.int 0]) _ (p1 :: fq) (List.mem_cons_of_mem _ qin) hq3 nGq3 rout (List.nodup_cons.mpr ⟨npfq, w2⟩) fun a ha => by
    rcases List.mem_cons.mp ha with rfl | ha
    · exact .inl List.mem_cons_self
    · exact .inl (List.mem_cons_of_mem _ (w3' a ha))
  refine ⟨p1, vs, q1, ws, e3, hp3, rs3.length.symm, hiv3, hq3, rq.length.symm, ⟨x.grow.wrt (fe0 q1 qfe), x.strm.wrt hq3 npq3 nGq3, gs_wrt x.gs hq3, fr, t1, t2, fun a ha => ?_⟩, ⟨fun y o ny hy z => ?_, fun _ h => h⟩⟩
  · rcases t3 a ha with y | y
    · rcases List.mem_cons.mp y with rfl | y
      · exact fe0 _ (sub3 _ List.mem_cons_self)
      · exact fe0 a (sub3 a (List.mem_cons_of_mem _ (w3' a y)))
    · exact fe0 a y.1
  · have : y ≠ q1 := fun e => by
      subst e
      rcases z with z | z
      · exact nGq3 z
      · rw [hq3] at hy
        exact z _ (Option.some.inj hy).symm
    rw [upd_ne this]
    exact hy
theorem ss_app0 {i : Nat} {x : Str} {px ps apos cpos pe : Pos} {k0 k2 : Nat} {c0 c2 : Pos} (n : Nm X i x) (hline : (apos.endLine == cpos.line) = true) :
    SS C Γ k X (.app0 i) (.Expr (.Call (.Attribute (.Subscript (.Name x px) (.Constant (.int 0) k0 c0) ps) "append" apos) [.Constant (.int 0) k2 c2] [] cpos) pe) := by
  refine ⟨_, ps_expr (pe_bm PySem.F.plainAttrs_list PySem.F.slot_list_append PySem.F.type_list_append mt_append (pe_ix ix_seq n.pe pe_int (fun _ _ => rfl)) (pa_cons pe_int pa_nil rfl) rfl rfl hline rfl rfl) rfl, fun p0 H0 G0 H G s env σ Q x h => ?_⟩
  rw [run] at h
  obtain ⟨o, e1, q⟩ := getE_sem (W_bind.mp h)
  have q := W_bind.mp q
  unfold app0D at q
  split at q
  · rename_i xs ds _
    obtain ⟨c, q⟩ := W_guard.mp (W_bind.mp q)
    have q : PostS C X p0 H0 G0 H G Q (.nx (setE env i (.lst true (.lst true (xs ++ [.int 0]) :: ds)))) s := q
    obtain ⟨p1, vs, q1, ws, es, hp, hl, hv, hq, hw, x3, ev3⟩ := row_app0 (j := 0) (xs := xs) x e1 rfl
    refine ⟨_, es, .inl ⟨p1, vs, 0, .ref q1, rfl, rfl, SqL.of hp, ?_, .inl ⟨rfl, _, SqL.of hq⟩, ⟨q1, ws, .int 0, rfl, rfl, hq, by rw [hw]; exact lim_size' c, q _ _ σ ev3 x3⟩⟩⟩
    unfold atI
    have : ixN vs.length 0 = some 0 := by
      rw [hl, List.length_cons]
      unfold ixN
      rw [if_pos (Int.le_refl 0), if_pos (by omega)]
      rfl
    rw [this]
    exact hv
  · exact q.elim
theorem ss_aug {i : Nat} {x : Str} {m : ME} {e : Expr} {px : Pos} (g : Gd C Γ Gs k X) (n : Nm X i x) (hx : Loc X.env.scope x) (hf : X.fn x = true ∨ X.env.scope.names.lookup x = some .local) (he : SE C Γ k X .v m e) : SS C Γ k X (.aug i m) (.AugAssign (.Name x px) .Add e pos) := by
  obtain ⟨te, a1, a2⟩ := he
  refine ⟨_, ps_aug g.nd n.hN hx a1 ip_add hf, fun p0 H0 G0 H G s env σ Q x h => ?_⟩
  rw [run] at h
  obtain ⟨o, e1, q⟩ := getE_sem (W_bind.mp h)
  obtain ⟨w, f, es, r, _⟩ := x.look e1
  refine ⟨w, es, a2 p0 H0 G0 H G s env σ _ x (W_mono (W_bind.mp q) fun d s1 q H1 G1 v fp g1 x1 r1 z1 => ?_)⟩
  have q := W_bind.mp q
  have ko : ∃ a b, o = .int a ∧ d = .int b := by
    unfold augD at q
    split at q
    · exact ⟨_, _, rfl, rfl⟩
    · exact q.elim
  obtain ⟨a, b, rfl, rfl⟩ := ko
  have q : PostS C X p0 H0 G0 H G Q (.nx (setE env i (.int (a + b)))) s1 := q
  rw [int_of r, int_of r1]
  refine ⟨_, _, rfl, rfl, ?_⟩
  refine tg_sem (H0 := H0) (.nm i) (R := fun env' s' => env' = setE env i (.int (a + b)) ∧ s' = s1) (s := s1) (Q := Q.nx) (d := .int (a + b)) (x1.beside Grow.rfl' (Reps.cons int_rep Reps.nil) .nil (by simp)) ⟨rfl, rfl⟩ fun env' σ' q' e => ?_
  rw [q'.1] at e
  exact q _ _ σ' g1.evo (x1.envs e)
end
end Mp

namespace Mp
open PySem PySem.Spec
open PyProof.Rows L2
/-! ### the look at a def's text -/
def visC (sc : Scope) (x : Str) : Bool := match sc.names.lookup x with | some .local => true | some .cell => true | some .free => true | _ => false
def locC (sc : Scope) (x : Str) : Bool := match sc.names.lookup x with | some .local => true | some .cell => true | _ => false
def glC (sc : Scope) (x : Str) : Bool := match sc.names.lookup x with | some .globalImplicit => true | _ => false
def plainN (x : Str) : Bool := !(x == ("__debug__" : Str)) && !(x == ("__classdict__" : Str))
def nmC (N : List Str) (sc : Scope) (i : Nat) (x : Str) : Bool := decide (N[i]? = some x) && (visC sc x && plainN x)
def noStar : Expr → Bool
  | .Starred .. => false
  | _ => true
def noSet : Expr → Bool
  | .Set .. => false
  | _ => true
def noComp : Expr → Bool
  | .ListComp .. => false
  | .SetComp .. => false
  | .DictComp .. => false
  | _ => true
def noTup : Expr → Bool
  | .Tuple .. => false
  | _ => true
def isTup : Expr → Bool
  | .Tuple .. => true
  | _ => false
def noSlice : Expr → Bool
  | .Slice .. => false
  | _ => true
def noCall0 : Expr → Bool
  | .Call (.Name _ _) [] [] _ => false
  | _ => true
/-- the names of a target, in order -/
def namesC (N : List Str) (ok : Str → Bool) : List Nat → List Expr → Bool
  | [], [] => true
  | i :: is, .Name x _ :: es => (decide (N[i]? = some x) && ok x) && namesC N ok is es
  | _, _ => false
def tgC (N : List Str) (ok : Str → Bool) : Tg → Expr → Bool
  | .nm i, .Name x _ => decide (N[i]? = some x) && ok x
  | .tup is, .Tuple es _ _ => namesC N ok is es
  | _, _ => false
def ownOf (N : List Str) (t : Tg) : List (Str × Nat) := t.slots.map fun i => ((N[i]?).getD ("" : Str), i)
section
variable (N : List Str) (Γ : String → Option MDef) (Gs : String → Option Int)
mutual
def embE (sc : Scope) : ME → Expr → Bool
  | .nop, _ => false
  | .non, e => match e with
    | .Constant .none _ _ => true
    | _ => false
  | .bl b, e => match e with
    | .Constant (.bool c) _ _ => decide (b = c)
    | _ => false
  | .int i, e => match e with
    | .Constant (.int j) _ _ => decide (i = j)
    | _ => false
  | .str s, e => match e with
    | .Constant (.str t) _ _ => decide (Str.ofString s = t)
    | _ => false
  | .var i, e => match e with
    | .Name x _ => nmC N sc i x
    | _ => false
  | .glob z i, e => match e with
    | .Name x _ => decide (Str.ofString z = x) && (decide (Gs z = some i) && (glC sc x && plainN x))
    | _ => false
  | .bin op a b, e => match e with
    | .BinOp x o y _ => decide (opP op = o) && (embE sc a x && embE sc b y)
    | _ => false
  | .neg a, e => match e with
    | .UnaryOp .USub x _ => embE sc a x
    | _ => false
  | .cmp op a b, e => match e with
    | .Compare x [o] [y] _ => (decide (op = o) && !behindInMarks o y) && (embE sc a x && embE sc b y)
    | _ => false
  | .chain op op' a b c, e => match e with
    | .Compare x [o, o'] [y, z] _ => ((decide (op = o) && decide (op' = o')) && !lastMarks [o, o'] [y, z]) && (embE sc a x && (embE sc b y && embE sc c z))
    | _ => false
  | .not a, e => match e with
    | .UnaryOp .Not x _ => embE sc a x
    | _ => false
  | .and a b, e => match e with
    | .BoolOp .And [x, y] _ => embE sc a x && embE sc b y
    | .BoolOp .And (x :: y :: z :: rest) p => embE sc a x && embE sc b (.BoolOp .And (y :: z :: rest) p)
    | _ => false
  | .or a b, e => match e with
    | .BoolOp .Or [x, y] _ => embE sc a x && embE sc b y
    | .BoolOp .Or (x :: y :: z :: rest) p => embE sc a x && embE sc b (.BoolOp .Or (y :: z :: rest) p)
    | _ => false
  | .ifx c a b, e => match e with
    | .IfExp z x y _ => embE sc c z && (embE sc a x && embE sc b y)
    | _ => false
  | .ix a k, e => match e with
    | .Subscript x y _ => noSlice y && (embE sc a x && embE sc k y)
    | _ => false
  | .sl a lo hi, e => match e with
    | .Subscript x (.Slice l h none _) _ => embE sc a x && ((match l with | none => isNop lo | some e => embE sc lo e) && (match h with | none => isNop hi | some e => embE sc hi e))
    | _ => false
  | .top a, e => match e with
    | .Attribute x n _ => (decide (n = ("top" : Str)) && noCall0 x) && embE sc a x
    | _ => false
  | .bot a, e => match e with
    | .Attribute x n _ => (decide (n = ("bottom" : Str)) && noCall0 x) && embE sc a x
    | _ => false
  | .tup as, e => match e with
    | .Tuple es _ _ => decide (as.len ≤ LIM) && embAs sc as es
    | _ => false
  | .lst as, e => match e with
    | .List es _ => decide (as.len ≤ LIM) && embAs sc as es
    | _ => false
  | .call f as, e => match e with
    | .Call (.Name x _) es [] _ => (decide (Str.ofString f = x) && (Γ f).isSome) && ((glC sc x && plainN x) && embAs sc as es)
    | _ => false
  | .bi b as, e => match e with
    | .Call (.Name x _) (e :: es) [] _ => (decide (bfName b = x) && glC sc x) && embAs sc as (e :: es)
    | _ => false
  | .mk as, e => match e with
    | .Call (.Name x _) (e :: es) [] _ => (decide (("Ratio" : Str) = x) && glC sc x) && embAs sc as (e :: es)
    | _ => false
  | .isi a t, e => match e with
    | .Call (.Name x _) [e, .Name y _] [] _ => (decide (("isinstance" : Str) = x) && glC sc x) && ((decide (tyName t = y) && glC sc y) && (noStar e && embE sc a e))
    | _ => false
  | .lc t it c e, e0 => match e0 with
    | .ListComp elt [⟨tg, iter, ifs, as⟩] scope _ => (decide (as = 0) && (noSet iter && blkC N sc scope (ownOf N t))) && (tgC N (locC scope) t tg && (embI sc tg it iter && (embE (relS scope sc) e elt && (match ifs with | [] => isNop c | [z] => embE (relS scope sc) c z | _ => false))))
    | _ => false
def embAs (sc : Scope) : MEs → List Expr → Bool
  | .nil, [] => true
  | .cons a as, e :: es => noStar e && (embE sc a e && embAs sc as es)
  | _, _ => false
def embI (sc : Scope) (tg : Expr) : MI → Expr → Bool
  | .enum a, e => match e with
    | .Call (.Name x _) [e] [] _ => (isTup tg && (decide (("enumerate" : Str) = x) && glC sc x)) && (noStar e && embE sc a e)
    | _ => false
  | .zip a b, e => match e with
    | .Call (.Name x _) [e, e'] [] _ => (isTup tg && (decide (("zip" : Str) = x) && glC sc x)) && ((noStar e && noStar e') && (embE sc a e && embE sc b e'))
    | _ => false
  | .seq a, e => embE sc a e
  | .rng a, e => match e with
    | .Call (.Name x _) [e] [] _ => (decide (("range" : Str) = x) && glC sc x) && (noStar e && embE sc a e)
    | _ => false
  | .rng2 a b, e => match e with
    | .Call (.Name x _) [e, e'] [] _ => (decide (("range" : Str) = x) && glC sc x) && ((noStar e && noStar e') && (embE sc a e && embE sc b e'))
    | _ => false
end
def embO (sc : Scope) (m : ME) : Option Expr → Bool
  | none => isNop m
  | some e => embE N Γ Gs sc m e
def embIf (sc : Scope) (m : ME) : List Expr → Bool
  | [] => isNop m
  | [e] => embE N Γ Gs sc m e
  | _ => false
/-- name = [..] as the text stores it -/
def swC (sc : Scope) (y : Str) (py : Pos) (scope : Scope) (p : Pos) : Bool := (sc.names.lookup y == some .local) && (py.line == p.line) && !(scope.names.any fun (n, k) => n == y && (k == .local || k == .cell))
def parC (sc : Scope) (x y : Str) (px py : Pos) (a b : Expr) : Bool :=
  (decide (sc.names.lookup x = some .local) && decide (sc.names.lookup y = some .local)) && ((decide (py.line = px.line) && !(x == y)) && ((noStar a && noStar b) && (!([a, b].all (foldedForSure 8)) && !([a, b].all (constantsAlone 8)))))
mutual
def embS (sc : Scope) : MS → Stmt → Bool
  | .frz _, _ => false
  | .kil _, _ => false
  | .asg (.nm i) m, e => match e with
    | .Assign [.Name y py] (.ListComp elt gs scope p) _ => (decide (N[i]? = some y) && locC sc y) && embE N Γ Gs sc m (.ListComp elt gs scope p)
    | .Assign [.Name y _] e _ => (decide (N[i]? = some y) && locC sc y) && (noComp e && embE N Γ Gs sc m e)
    | _ => false
  | .asg (.tup is) m, e => match e with
    | .Assign [.Tuple es a p] e _ => namesC N (locC sc) is es && (noTup e && (noComp e && embE N Γ Gs sc m e))
    | _ => false
  | .par i j m m', e => match e with
    | .Assign [.Tuple [.Name x px, .Name y py] _ _] (.Tuple [a, b] _ _) _ => (decide (N[i]? = some x) && decide (N[j]? = some y)) && (decide (i ≠ j) && (parC sc x y px py a b && (embE N Γ Gs sc m a && embE N Γ Gs sc m' b)))
    | _ => false
  | .aug i m, e => match e with
    | .AugAssign (.Name x _) .Add e _ => nmC N sc i x && (locC sc x && embE N Γ Gs sc m e)
    | _ => false
  | .set1 i k m, e => match e with
    | .Assign [.Subscript (.Name x _) ek _] e _ => nmC N sc i x && (noSlice ek && (embE N Γ Gs sc k ek && embE N Γ Gs sc m e))
    | _ => false
  | .set2 i k l m, e => match e with
    | .Assign [.Subscript (.Subscript (.Name x _) ek _) el _] e _ => nmC N sc i x && ((noSlice ek && noSlice el) && (embE N Γ Gs sc k ek && (embE N Γ Gs sc l el && embE N Γ Gs sc m e)))
    | _ => false
  | .app i m, e => match e with
    | .Expr (.Call (.Attribute (.Name x _) n ap) [e] [] cp) _ => nmC N sc i x && ((decide (n = ("append" : Str)) && (ap.endLine == cp.line)) && (noStar e && embE N Γ Gs sc m e))
    | _ => false
  | .ext i m, e => match e with
    | .Expr (.Call (.Attribute (.Name x _) n ap) [e] [] cp) _ => nmC N sc i x && ((decide (n = ("extend" : Str)) && (ap.endLine == cp.line)) && (noStar e && embE N Γ Gs sc m e))
    | _ => false
  | .ins i k m, e => match e with
    | .Expr (.Call (.Attribute (.Name x _) n ap) [ek, e] [] cp) _ => nmC N sc i x && ((decide (n = ("insert" : Str)) && (ap.endLine == cp.line)) && ((noStar ek && noStar e) && (embE N Γ Gs sc k ek && embE N Γ Gs sc m e)))
    | _ => false
  | .pop t i m, e => match e with
    | .Assign [.Name y _] (.Call (.Attribute (.Name x _) n ap) [e] [] cp) _ => nmC N sc i x && ((decide (n = ("pop" : Str)) && (ap.endLine == cp.line)) && ((decide (N[t]? = some y) && locC sc y) && (noStar e && embE N Γ Gs sc m e)))
    | _ => false
  | .exp m, e => match e with
    | .Expr e _ => noComp e && embE N Γ Gs sc m e
    | _ => false
  | .ret m, e => match e with
    | .Return (some e) _ => embE N Γ Gs sc m e
    | _ => false
  | .retv i, e => match e with
    | .Return (some (.Name x _)) _ => nmC N sc i x
    | _ => false
  | .retN, e => match e with
    | .Return none _ => true
    | _ => false
  | .ite c a b, e => match e with
    | .If e as bs _ => embE N Γ Gs sc c e && (embSs sc a as && embSs sc b bs)
    | _ => false
  | .loop t it body _, e => match e with
    | .For tg iter bs [] _ => (tgC N (locC sc) t tg && noSet iter) && (embI N Γ Gs sc tg it iter && embSs sc body bs)
    | _ => false
  | .while _ c body _, e => match e with
    | .While e bs [] _ => embE N Γ Gs sc c e && embSs sc body bs
    | _ => false
  | .brk, e => match e with
    | .Break _ => true
    | _ => false
  | .cont, e => match e with
    | .Continue _ => true
    | _ => false
  | .pass, e => match e with
    | .Pass _ => true
    | _ => false
  | .appm i j, e => match e with
    | .Expr (.Call (.Attribute (.Name x _) n ap) [.Name y _] [] cp) _ => nmC N sc i x && ((decide (n = ("append" : Str)) && (ap.endLine == cp.line)) && nmC N sc j y)
    | _ => false
  | .spoil t i, e => match e with
    | .For tg (.Name y _) [.Assign [.Subscript (.Name x _) (.Constant (.int 0) _ _) _] (.Constant .none _ _) _, .Expr (.Call (.Attribute (.Name z _) n ap) [.Constant (.int 0) _ _] [] cp) _] [] _ =>
      tgC N (locC sc) (.nm t) tg && (nmC N sc i y && (nmC N sc t x && (nmC N sc t z && (decide (n = ("append" : Str)) && (ap.endLine == cp.line)))))
    | _ => false
  | .app0 i, e => match e with
    | .Expr (.Call (.Attribute (.Subscript (.Name x _) (.Constant (.int 0) _ _) _) n ap) [.Constant (.int 0) _ _] [] cp) _ => nmC N sc i x && (decide (n = ("append" : Str)) && (ap.endLine == cp.line))
    | _ => false
  | .mv i j, e => match e with
    | .Assign [.Name y _] (.Name x _) _ => nmC N sc j x && (decide (N[i]? = some y) && locC sc y)
    | _ => false
  | .raise _, _ => true
def embSs (sc : Scope) : MSs → List Stmt → Bool
  | .nil, [] => true
  | .cons (.frz _) ms, es => embSs sc ms es
  | .cons (.kil _) ms, es => embSs sc ms es
  | .cons m ms, e :: es => embS sc m e && embSs sc ms es
  | _, _ => false
end
end
end Mp

namespace Mp
open PySem PySem.Spec
open PyProof.Rows L2
section
variable {C : Addr} {Γ : String → Option MDef} {Gs : String → Option Int} {k : Nat} {X : Cx}
theorem vis_by {sc : Scope} {x : Str} (h : visC sc x = true) : Vis sc x := by
  unfold visC at h
  split at h
  · exact .inl ‹_›
  · exact .inr (.inl ‹_›)
  · exact .inr (.inr ‹_›)
  · cases h
theorem loc_by {sc : Scope} {x : Str} (h : locC sc x = true) : Loc sc x := by
  unfold locC at h
  split at h
  · exact .inl ‹_›
  · exact .inr ‹_›
  · cases h
theorem gl_by {x : Str} (h : glC X.env.scope x = true) : Gl X x := by
  unfold glC at h
  split at h
  · assumption
  · cases h
theorem plain_by {x : Str} (h : plainN x = true) : (x == ("__debug__" : Str)) = false ∧ (x == ("__classdict__" : Str)) = false := by
  unfold plainN at h
  simpa using h
theorem nm_by {i : Nat} {x : Str} (h : nmC X.N X.env.scope i x = true) : Nm X i x := by
  unfold nmC at h
  simp only [Bool.and_eq_true, decide_eq_true_eq] at h
  obtain ⟨h1, h2, h3⟩ := h
  exact ⟨h1, vis_by h2, (plain_by h3).1, (plain_by h3).2⟩
theorem star_by {e : Expr} (h : noStar e = true) (es : List Expr) (env : Env) : starEach (e :: es) env = (false, eval e env) :: starEach es env := by
  cases e <;> first | rfl | cases h
theorem set_by {e : Expr} (h : noSet e = true) (env : Env) : ∀ x, foldedSetIterable e env x = pure x := by
  cases e <;> first | (intro x; rfl) | cases h
theorem call0_by {e : Expr} (h : noCall0 e = true) (n : Str) (env : Env) (w : Sem Value) : attributeBase e n env w = w := by
  cases e <;> try rfl
  rename_i f as ks p
  cases f <;> try rfl
  cases as <;> try rfl
  cases ks <;> first | rfl | cases h
theorem slice_by {e : Expr} (h : noSlice e = true) : PlainIx e := by
  cases e <;> first | (intro o i; rfl) | cases h
theorem swN_by {e : Expr} (h : noComp e = true) (t : Option Expr) (l : Nat) (env : Env) : swapsWith e t l env = pure false := by
  cases e <;> first | rfl | cases h
theorem sub_by {o i : Expr} {p : Pos} (h : noSlice i = true) (env : Env) : ∀ v, assign (.Subscript o i p) env v = (do
      let ov ← holding [v] (eval o env)
      let iv ← holding [v, ov] (eval i env)
      standAt p
      holding [v, ov, iv] (setItem ov iv v)
      release [v, ov, iv] []) := by
  cases i <;> first | (intro v; rfl) | cases h
/-! ### expressions -/
def OkT (C : Addr) (Γ : String → Option MDef) (k : Nat) (X : Cx) (m : ME) (e : Expr) : Prop := match e with
  | .BoolOp .. => SW C Γ k X m e
  | _ => ST C Γ k X m e
theorem OkT.st {m : ME} {e : Expr} (h : OkT C Γ k X m e) : ST C Γ k X m e := by
  cases e <;> first | exact h | exact SW.st _ _ h
structure OkE (C : Addr) (Γ : String → Option MDef) (k : Nat) (X : Cx) (m : ME) (e : Expr) : Prop where
  se : ∀ p, p ≠ .t → SE C Γ k X p m e
  tt : OkT C Γ k X m e
theorem OkE.v {m : ME} {e : Expr} (h : OkE C Γ k X m e) : SE C Γ k X .v m e := h.se .v (by decide)
theorem OkE.p {m : ME} {e : Expr} (h : OkE C Γ k X m e) : SE C Γ k X .p m e := h.se .p (by decide)
theorem OkE.t {m : ME} {e : Expr} (h : OkE C Γ k X m e) : ST C Γ k X m e := h.tt.st
structure OkA (C : Addr) (Γ : String → Option MDef) (k : Nat) (X : Cx) (m : MEs) (es : List Expr) : Prop where
  av : SA C k X true (fun env => evs (callF Γ k) env m) es
  ap : SA C k X false (fun env => evas (callF Γ k) env m) es
  ab : SAB C k X (fun env => evbs (callF Γ k) env m) es
  pl : ∀ pos, (backTo pos (starEach es X.env)).any (·.1) = false
  st : ∀ e r, es = e :: r → starEach (e :: r) X.env = (false, eval e X.env) :: starEach r X.env
  tl : ∀ e r, es = e :: r → ∀ pos, (backTo pos (starEach r X.env)).any (·.1) = false
theorem okE_of {m : ME} {e : Expr} (h : ∀ p, SE C Γ k X p m e) (he : ∀ whole, isTrue e X.env whole = (do let v ← whole; standAt e.pos; holding [v] (truthy v))) (hn : OkT C Γ k X m e = ST C Γ k X m e) : OkE C Γ k X m e :=
  ⟨fun p _ => h p, by rw [hn]; exact (h .t).t he⟩
theorem pgs_by (ok : Str → Bool) (hN : X.N.Nodup) (hok : ∀ x, ok x = true → Loc X.env.scope x ∧ (X.fn x = true ∨ X.env.scope.names.lookup x = some .local)) : ∀ {is : List Nat} {es : List Expr}, namesC X.N ok is es = true →
    PGs X es (gNs is) ∧ (assignEach es X.env).length = is.length ∧ (assignEach es X.env).findIdx? (·.1) = none
  | [], [], _ => ⟨pgs_nil, rfl, rfl⟩
  | [], _ :: _, h => by simp [namesC] at h
  | _ :: _, [], h => by simp [namesC] at h
  | i :: is, e :: es, h => by
    cases e with
    | Name x pos =>
      unfold namesC at h
      simp only [Bool.and_eq_true, decide_eq_true_eq] at h
      obtain ⟨⟨h1, h2⟩, h3⟩ := h
      obtain ⟨a, b, c⟩ := pgs_by ok hN hok h3
      obtain ⟨l, f⟩ := hok x h2
      refine ⟨pgs_cons (pg_name hN h1 l f) a, ?_, ?_⟩
      · show ((false, assign (.Name x pos) X.env) :: assignEach es X.env).length = _
        rw [List.length_cons, b]; rfl
      · show ((false, assign (.Name x pos) X.env) :: assignEach es X.env).findIdx? (·.1) = none
        rw [List.findIdx?_cons, c]; rfl
    | _ => simp [namesC] at h
theorem pg_by (ok : Str → Bool) (hc : X.calm = true) (hN : X.N.Nodup) (hok : ∀ x, ok x = true → Loc X.env.scope x ∧ (X.fn x = true ∨ X.env.scope.names.lookup x = some .local)) {t : Tg} {tg : Expr} (h : tgC X.N ok t tg = true) : PG X tg (gT X.K t) := by
  cases t with
  | nm i =>
    cases tg with
    | Name x pos =>
      unfold tgC at h
      simp only [Bool.and_eq_true, decide_eq_true_eq] at h
      obtain ⟨l, f⟩ := hok x h.2
      exact pg_name hN h.1 l f
    | _ => simp [tgC] at h
  | tup is =>
    cases tg with
    | Tuple es kk pos =>
      obtain ⟨a, b, c⟩ := pgs_by ok hN hok (show namesC X.N ok is es = true from h)
      have q1 := pg_tup (k := kk) (pos := pos) hc a b c
      have q2 := pg_unl (k := kk) (pos := pos) hc a b c
      exact ⟨fun pins s σ H v u Q I r h => h.elim (q1.run pins s σ H v u Q I r) (q2.run pins s σ H v u Q I r)⟩
    | _ => simp [tgC] at h
end
end Mp

namespace Mp
open PySem PySem.Spec
open PyProof.Rows L2
section
variable {C : Addr} {Γ : String → Option MDef} {Gs : String → Option Int} {k : Nat}
theorem some_md {f : String} (h : (Γ f).isSome = true) : ∃ md, Γ f = some md := Option.isSome_iff_exists.mp h
theorem own_slots {N : List Str} {t : Tg} : (ownOf N t).map (·.2) = t.slots := by
  unfold ownOf
  rw [List.map_map]
  exact List.map_id' _
theorem gd_blk {X : Cx} (g : Gd C Γ Gs k X) (s : Shared) (H : Hp) (scope : Scope) (cenv : Env) (fp : List Addr) : Gd C Γ Gs k (X.blk s H scope cenv fp) := ⟨g.wd, g.calm, PassesOwn.never, g.nd, g.room⟩
theorem tg_blk {X : Cx} (g : Gd C Γ Gs k X) {scope : Scope} {t : Tg} {tg : Expr} (h : tgC X.N (locC scope) t tg = true) (s : Shared) (H : Hp) (C' : Addr) (cl : List (Str × Addr)) (fp : List Addr) : PG (X.blk s H scope (compEnvC scope cl C' X.env) fp) tg (gT X.K t) :=
  pg_by (X := X.blk s H scope (compEnvC scope cl C' X.env) fp) (locC scope) g.calm g.nd (fun x hx => by
    rcases loc_by hx with h | h
    · exact ⟨.inl (lookup_relS_keep (by decide) h), .inr (lookup_relS_keep (by decide) h)⟩
    · exact ⟨.inr (lookup_relS_keep (by decide) h), .inl (by show (scope.names.lookup x == some NameKind.cell) = true; rw [h]; rfl)⟩) h
theorem swap_lc {X : Cx} {sc : Scope} {y : Str} {py p : Pos} {elt : Expr} {gs : List Comprehension} {scope : Scope} {l : Nat} (hk : X.env.scope.kind = .function) :
    swapsWith (.ListComp elt gs scope p) (some (.Name y py)) l X.env = pure (swC X.env.scope y py scope p) := by
  have e : swapsWith (.ListComp elt gs scope p) (some (.Name y py)) l X.env = pure (X.env.blockKind == .function && X.env.kindOf y == some .local && py.line == p.line
      && !(scope.names.any fun (n, k) => n == y && (k == .local || k == .cell))) := rfl
  rw [e]
  have b : X.env.blockKind = .function := by
    unfold Env.blockKind
    rw [hk]; rfl
  rw [b]
  rfl
theorem isNop_eq {m : ME} (h : isNop m = true) : m = .nop := by
  cases m <;> first | rfl | cases h
theorem nop_emb {N : List Str} {sc : Scope} {m : ME} {e : Expr} (h : embE N Γ Gs sc m e = true) : isNop m = false := by
  cases m <;> first | rfl | (unfold embE at h; cases h)
theorem embO_ok' {m : ME} {o : Option Expr} {X : Cx} (ih : ∀ e, embE X.N Γ Gs X.env.scope m e = true → OkE C Γ k X m e) (h : (match o with | none => isNop m | some e => embE X.N Γ Gs X.env.scope m e) = true) : SO C Γ k X m o := by
  cases o with
  | none =>
    cases isNop_eq h
    exact so_none
  | some e => exact so_some (ih e h).v (nop_emb h)
theorem embIf_ok' {m : ME} {es : List Expr} {X : Cx} (ih : ∀ e, embE X.N Γ Gs X.env.scope m e = true → OkE C Γ k X m e) (h : (match es with | [] => isNop m | [e] => embE X.N Γ Gs X.env.scope m e | _ => false) = true) : PTs X es (tCond X.K C Γ k m) := by
  cases es with
  | nil =>
    cases isNop_eq h
    exact pts_nil
  | cons e es =>
    cases es with
    | nil =>
      have n := nop_emb h
      unfold tCond
      rw [if_neg (by rw [n]; decide)]
      exact pts_one (ih e h).t.canon
    | cons e' es => cases h
mutual
theorem embE_ok : ∀ (m : ME) {e : Expr} {X : Cx}, Gd C Γ Gs k X → embE X.N Γ Gs X.env.scope m e = true → OkE C Γ k X m e
  | .nop, e, X, g, h => by unfold embE at h; cases h
  | .non, e, X, g, h => by
    unfold embE at h
    split at h
    · exact okE_of (fun p => se_non) (fun _ => rfl) rfl
    · cases h
  | .bl b, e, X, g, h => by
    unfold embE at h
    split at h
    · cases of_decide_eq_true h
      exact okE_of (fun p => se_bl) (fun _ => rfl) rfl
    · cases h
  | .int b, e, X, g, h => by
    unfold embE at h
    split at h
    · cases of_decide_eq_true h
      exact okE_of (fun p => se_int) (fun _ => rfl) rfl
    · cases h
  | .str b, e, X, g, h => by
    unfold embE at h
    split at h
    · cases of_decide_eq_true h
      exact okE_of (fun p => se_str) (fun _ => rfl) rfl
    · cases h
  | .var i, e, X, g, h => by
    unfold embE at h
    split at h
    · have n := nm_by h
      exact okE_of (fun p => se_var n.hN n.hv n.hd n.hcd) (fun _ => rfl) rfl
    · cases h
  | .glob z i, e, X, g, h => by
    unfold embE at h
    split at h
    · simp only [Bool.and_eq_true, decide_eq_true_eq] at h
      obtain ⟨rfl, h2, h3, h4⟩ := h
      exact okE_of (fun p => se_glob g h2 (gl_by h3) (plain_by h4).1) (fun _ => rfl) rfl
    · cases h
  | .bin op a b, e, X, g, h => by
    unfold embE at h
    split at h
    · simp only [Bool.and_eq_true, decide_eq_true_eq] at h
      obtain ⟨rfl, h2, h3⟩ := h
      exact okE_of (fun p => se_bin g (embE_ok a g h2).p (embE_ok b g h3).p) (fun _ => rfl) rfl
    · cases h
  | .neg a, e, X, g, h => by
    unfold embE at h
    split at h
    · exact okE_of (fun p => se_neg g (embE_ok a g h).v) (fun _ => rfl) rfl
    · cases h
  | .cmp op a b, e, X, g, h => by
    unfold embE at h
    split at h
    · simp only [Bool.and_eq_true, decide_eq_true_eq, Bool.not_eq_true'] at h
      obtain ⟨⟨rfl, h1⟩, h2, h3⟩ := h
      have q := fun p pos => se_cmp (p := p) (pos := pos) g (embE_ok a g h2).p (embE_ok b g h3).p h1
      exact ⟨fun p _ => (q p _).1, (q .p _).2⟩
    · cases h
  | .chain op op' a b c, e, X, g, h => by
    unfold embE at h
    split at h
    · simp only [Bool.and_eq_true, decide_eq_true_eq, Bool.not_eq_true'] at h
      obtain ⟨⟨⟨rfl, rfl⟩, h1⟩, h2, h3, h4⟩ := h
      have q := fun p pos => se_chain (p := p) (pos := pos) g (embE_ok a g h2).v (embE_ok b g h3).v (embE_ok c g h4).v h1
      exact ⟨fun p _ => (q p _).1, (q .p _).2⟩
    · cases h
  | .not a, e, X, g, h => by
    unfold embE at h
    split at h
    · have q := embE_ok a g h
      exact ⟨fun p hp => se_not q.p hp, st_not q.t⟩
    · cases h
  | .and a b, e, X, g, h => by
    unfold embE at h
    split at h
    · simp only [Bool.and_eq_true] at h
      have qa := embE_ok a g h.1
      have qb := embE_ok b g h.2
      exact ⟨fun p hp => se_and qa.v (se_one qb.v) hp, sw_and qa.t (sw_and1 qb.t)⟩
    · simp only [Bool.and_eq_true] at h
      have qa := embE_ok a g h.1
      have qb := embE_ok b g h.2
      exact ⟨fun p hp => se_and qa.v qb.v hp, sw_and qa.t qb.tt⟩
    · cases h
  | .or a b, e, X, g, h => by
    unfold embE at h
    split at h
    · simp only [Bool.and_eq_true] at h
      have qa := embE_ok a g h.1
      have qb := embE_ok b g h.2
      exact ⟨fun p hp => se_or qa.v (se_one qb.v) hp, sw_or qa.t (sw_or1 qb.t)⟩
    · simp only [Bool.and_eq_true] at h
      have qa := embE_ok a g h.1
      have qb := embE_ok b g h.2
      exact ⟨fun p hp => se_or qa.v qb.v hp, sw_or qa.t qb.tt⟩
    · cases h
  | .ifx c a b, e, X, g, h => by
    unfold embE at h
    split at h
    · simp only [Bool.and_eq_true] at h
      obtain ⟨h1, h2, h3⟩ := h
      have qc := embE_ok c g h1
      have qa := embE_ok a g h2
      have qb := embE_ok b g h3
      refine ⟨fun p hp => se_ifx qc.t qa.v qb.v hp, ⟨_, pt_nev, fun p0 H0 G0 H G s env σ Q x h => ?_⟩⟩
      unfold tru at h
      rw [ev] at h
      exact (W_bind.mp h).elim
    · cases h
  | .ix a b, e, X, g, h => by
    unfold embE at h
    split at h
    · simp only [Bool.and_eq_true] at h
      obtain ⟨h1, h2, h3⟩ := h
      exact okE_of (fun p => se_ix (embE_ok a g h2).p (embE_ok b g h3).v (slice_by h1)) (fun _ => rfl) rfl
    · cases h
  | .sl a lo hi, e, X, g, h => by
    unfold embE at h
    split at h
    · simp only [Bool.and_eq_true] at h
      obtain ⟨h1, h2, h3⟩ := h
      exact okE_of (fun p => se_sl (embE_ok a g h1).p (embO_ok' (fun e h => embE_ok lo g h) h2) (embO_ok' (fun e h => embE_ok hi g h) h3)) (fun _ => rfl) rfl
    · cases h
  | .top a, e, X, g, h => by
    unfold embE at h
    split at h
    · simp only [Bool.and_eq_true, decide_eq_true_eq] at h
      obtain ⟨⟨rfl, h1⟩, h2⟩ := h
      exact okE_of (fun p => se_top g (embE_ok a g h2).v (call0_by h1 _ _ _)) (fun _ => rfl) rfl
    · cases h
  | .bot a, e, X, g, h => by
    unfold embE at h
    split at h
    · simp only [Bool.and_eq_true, decide_eq_true_eq] at h
      obtain ⟨⟨rfl, h1⟩, h2⟩ := h
      exact okE_of (fun p => se_bot g (embE_ok a g h2).v (call0_by h1 _ _ _)) (fun _ => rfl) rfl
    · cases h
  | .tup as, e, X, g, h => by
    unfold embE at h
    split at h
    · simp only [Bool.and_eq_true, decide_eq_true_eq] at h
      exact okE_of (fun p => se_tup (embAs_ok as g h.2).av h.1) (fun _ => rfl) rfl
    · cases h
  | .lst as, e, X, g, h => by
    unfold embE at h
    split at h
    · simp only [Bool.and_eq_true, decide_eq_true_eq] at h
      exact okE_of (fun p => se_lst (embAs_ok as g h.2).av h.1) (fun _ => rfl) rfl
    · cases h
  | .call f as, e, X, g, h => by
    unfold embE at h
    split at h
    · simp only [Bool.and_eq_true, decide_eq_true_eq] at h
      obtain ⟨⟨rfl, h1⟩, ⟨h2, h3⟩, h4⟩ := h
      obtain ⟨md, hf⟩ := some_md h1
      have A := embAs_ok as g h4
      rename_i es _
      cases es with
      | nil =>
        cases as with
        | nil => exact okE_of (fun p => se_call0 g hf (gl_by h2) (plain_by h3).1) (fun _ => rfl) rfl
        | cons a as => unfold embAs at h4; cases h4
      | cons e es => exact okE_of (fun p => se_call g hf A.ap (gl_by h2) (plain_by h3).1 (A.st _ _ rfl) (A.tl _ _ rfl _)) (fun _ => rfl) rfl
    · cases h
  | .bi b as, e, X, g, h => by
    unfold embE at h
    split at h
    · simp only [Bool.and_eq_true, decide_eq_true_eq] at h
      obtain ⟨⟨rfl, h1⟩, h2⟩ := h
      have A := embAs_ok as g h2
      exact okE_of (fun p => se_bi g A.ab (gl_by h1) (A.st _ _ rfl) (A.tl _ _ rfl _)) (fun _ => rfl) rfl
    · cases h
  | .mk as, e, X, g, h => by
    unfold embE at h
    split at h
    · simp only [Bool.and_eq_true, decide_eq_true_eq] at h
      obtain ⟨⟨rfl, h1⟩, h2⟩ := h
      have A := embAs_ok as g h2
      exact okE_of (fun p => se_mk g A.av (gl_by h1) (A.st _ _ rfl) (A.tl _ _ rfl _)) (fun _ => rfl) rfl
    · cases h
  | .isi a t, e, X, g, h => by
    unfold embE at h
    split at h
    · simp only [Bool.and_eq_true, decide_eq_true_eq] at h
      obtain ⟨⟨rfl, h1⟩, ⟨rfl, h2⟩, h3, h4⟩ := h
      exact okE_of (fun p => se_isi g (embE_ok a g h4).p (gl_by h1) (gl_by h2) (star_by h3 _ _) rfl) (fun _ => rfl) rfl
    · cases h
  | .lc t it c e', e, X, g, h => by
    unfold embE at h
    split at h
    · simp only [Bool.and_eq_true, decide_eq_true_eq] at h
      obtain ⟨⟨rfl, h1, h2⟩, h3, h4, h5, h6⟩ := h
      exact okE_of (fun p => (se_lc g (embI_ok it g h4) (blkOk_by h2) own_slots (tg_blk g h3)
        (fun s H C' cl fp => embIf_ok' (fun e h => embE_ok c (gd_blk g s H _ _ fp) h) h6)
        (fun s H C' cl fp => (embE_ok e' (gd_blk g s H _ _ fp) h5).v) (set_by h1 _)).1) (fun _ => rfl) rfl
    · cases h
theorem embAs_ok : ∀ (m : MEs) {es : List Expr} {X : Cx}, Gd C Γ Gs k X → embAs X.N Γ Gs X.env.scope m es = true → OkA C Γ k X m es
  | .nil, es, X, g, h => by
    cases es with
    | nil => exact ⟨sa_nil (fun env => by rw [evs]), sa_nil (fun env => by rw [evas]), sab_nil (fun env => by rw [evbs]), fun _ => rfl, fun _ _ z => (by cases z), fun _ _ z => (by cases z)⟩
    | cons e es => unfold embAs at h; cases h
  | .cons a as, es, X, g, h => by
    cases es with
    | nil => unfold embAs at h; cases h
    | cons e es =>
      unfold embAs at h
      simp only [Bool.and_eq_true] at h
      obtain ⟨h1, h2, h3⟩ := h
      have q := embE_ok a g h2
      have A := embAs_ok as g h3
      have hs := star_by h1 es X.env
      have e1 : (fun env => evs (callF Γ k) env (.cons a as)) = fun env => (do let d ← ev (callF Γ k) env .v a; let ds ← evs (callF Γ k) env as; pure (d :: ds)) := by funext env; rw [evs]
      have e2 : (fun env => evas (callF Γ k) env (.cons a as)) = fun env => (do let d ← ev (callF Γ k) env .p a; let ds ← evas (callF Γ k) env as; pure (d :: ds)) := by funext env; rw [evas]
      have e3 : (fun env => evbs (callF Γ k) env (.cons a as)) = fun env => (do let d ← bw a (ev (callF Γ k) env .p a); let ds ← evbs (callF Γ k) env as; pure (d :: ds)) := by funext env; rw [evbs]
      refine ⟨e1 ▸ sa_cons q.v A.av (fun _ => rfl) hs, e2 ▸ sa_cons q.p A.ap (fun z => by cases z) hs, e3 ▸ sab_cons q.p A.ab hs, fun pos => ?_, fun _ _ z => ?_, fun _ _ z pos => ?_⟩
      · rw [hs]
        exact A.pl pos
      · cases z; exact hs
      · cases z; exact A.pl pos
theorem embI_ok : ∀ (m : MI) {tg e : Expr} {X : Cx}, Gd C Γ Gs k X → embI X.N Γ Gs X.env.scope tg m e = true → SI C Γ k X tg m e
  | .seq a, tg, e, X, g, h => by
    unfold embI at h
    exact si_seq (embE_ok a g h).v
  | .rng a, tg, e, X, g, h => by
    unfold embI at h
    split at h
    · simp only [Bool.and_eq_true, decide_eq_true_eq] at h
      obtain ⟨⟨rfl, h1⟩, h2, h3⟩ := h
      exact si_rng g (embE_ok a g h3).v (gl_by h1) (star_by h2 _ _)
    · cases h
  | .rng2 a b, tg, e, X, g, h => by
    unfold embI at h
    split at h
    · simp only [Bool.and_eq_true, decide_eq_true_eq] at h
      obtain ⟨⟨rfl, h1⟩, ⟨h2, h3⟩, h4, h5⟩ := h
      exact si_rng2 g (embE_ok a g h4).v (embE_ok b g h5).v (gl_by h1) ((star_by h2 _ _).trans (congrArg _ (star_by h3 _ _))) (star_by h3 _ _)
    · cases h
  | .enum a, tg, e, X, g, h => by
    unfold embI at h
    split at h
    · simp only [Bool.and_eq_true, decide_eq_true_eq] at h
      obtain ⟨⟨h0, rfl, h1⟩, h2, h3⟩ := h
      cases tg <;> first | exact si_enum g (embE_ok a g h3).v (gl_by h1) (star_by h2 _ _) | cases h0
    · cases h
  | .zip a b, tg, e, X, g, h => by
    unfold embI at h
    split at h
    · simp only [Bool.and_eq_true, decide_eq_true_eq] at h
      obtain ⟨⟨h0, rfl, h1⟩, ⟨h2, h3⟩, h4, h5⟩ := h
      cases tg <;> first | exact si_zip g (embE_ok a g h4).v (embE_ok b g h5).v (gl_by h1) ((star_by h2 _ _).trans (congrArg _ (star_by h3 _ _))) (star_by h3 _ _) | cases h0
    · cases h
end
end
end Mp

namespace Mp
open PySem PySem.Spec
open PyProof.Rows L2
section
variable {C : Addr} {Γ : String → Option MDef} {Gs : String → Option Int} {k : Nat}
/-- a def's own body: all stores land -/
structure Bd (X : Cx) : Prop where
  kind : X.env.scope.kind = .function
  fn : ∀ x, X.fn x = true
theorem Bd.bk {X : Cx} (b : Bd X) : X.env.blockKind = .function := by
  unfold Env.blockKind
  rw [b.kind]; rfl
theorem Bd.ok {X : Cx} (b : Bd X) : ∀ x, locC X.env.scope x = true → Loc X.env.scope x ∧ (X.fn x = true ∨ X.env.scope.names.lookup x = some .local) := fun x h => ⟨loc_by h, .inl (b.fn x)⟩
theorem ss_lc {t : Tg} {it : MI} {c e' : ME} {i : Nat} {y : Str} {py p pos : Pos} {elt : Expr} {gs : List Comprehension} {scope : Scope} {X : Cx} (g : Gd C Γ Gs k X) (bd : Bd X) (hi : X.N[i]? = some y) (hl : locC X.env.scope y = true)
    (h : embE X.N Γ Gs X.env.scope (.lc t it c e') (.ListComp elt gs scope p) = true) : SS C Γ k X (.asg (.nm i) (.lc t it c e')) (.Assign [.Name y py] (.ListComp elt gs scope p) pos) := by
  have E := embE_ok (.lc t it c e') g h
  have sw := swap_lc (y := y) (py := py) (p := p) (elt := elt) (gs := gs) (scope := scope) (l := pos.line) (sc := X.env.scope) bd.kind
  cases hs : swC X.env.scope y py scope p with
  | false =>
    rw [hs] at sw
    exact ss_asg E.v (pg_name g.nd hi (loc_by hl) (.inl (bd.fn y))) sw rfl rfl
  | true =>
    rw [hs] at sw
    have hy : X.env.scope.names.lookup y = some .local := by
      unfold swC at hs
      simp only [Bool.and_eq_true, beq_iff_eq] at hs
      exact hs.1.1
    unfold embE at h
    split at h
    · rename_i heq
      cases heq
      simp only [Bool.and_eq_true, decide_eq_true_eq] at h
      obtain ⟨⟨rfl, h1, h2⟩, h3, h4, h5, h6⟩ := h
      exact ss_asgC ((se_lc (p := .v) (pos := p) g (embI_ok it g h4) (blkOk_by h2) own_slots (tg_blk g h3)
        (fun s H C' cl fp => embIf_ok' (fun e h => embE_ok c (gd_blk g s H _ _ fp) h) h6)
        (fun s H C' cl fp => (embE_ok e' (gd_blk g s H _ _ fp) h5).v) (set_by h1 _)).2 hi hy sw)
    · cases h
theorem lc_form {N : List Str} {sc : Scope} {m : ME} {elt : Expr} {gs : List Comprehension} {scope : Scope} {p : Pos} (h : embE N Γ Gs sc m (.ListComp elt gs scope p) = true) : ∃ t it c e', m = .lc t it c e' := by
  cases m with
  | lc t it c e' => exact ⟨t, it, c, e', rfl⟩
  | _ => unfold embE at h; simp at h
theorem star_match {a : Expr} (z : (match a with | .Starred .. => true | _ => false) = true) (h : noStar a = true) : False := by
  cases a <;> first | (cases z; done) | cases h
theorem swS_by {e t : Expr} (h : noComp e = true) (l : Nat) (env : Env) : swapsWithSole [t] e l env = pure false := swN_by h (some t) l env
theorem par_st {sc : Scope} {x y : Str} {px py : Pos} {a b : Expr} (h : parC sc x y px py a b = true) : noStar a = true ∧ noStar b = true := by
  unfold parC at h
  simp only [Bool.and_eq_true] at h
  exact h.2.2.1
theorem par_by {X : Cx} (bd : Bd X) {x y : Str} {px py pt pt2 : Pos} {a b : Expr} {kt k2 : Nat} (h : parC X.env.scope x y px py a b = true) :
    X.env.scope.names.lookup x = some .local ∧ X.env.scope.names.lookup y = some .local ∧ swappedStores [.Tuple [.Name x px, .Name y py] kt pt] (.Tuple [a, b] k2 pt2) X.env = pure (some [x, y]) := by
  unfold parC at h
  simp only [Bool.and_eq_true, decide_eq_true_eq, Bool.not_eq_true'] at h
  obtain ⟨⟨h1, h2⟩, ⟨h3, h4⟩, ⟨h5, h6⟩, h7, h8⟩ := h
  refine ⟨h1, h2, ?_⟩
  have ns : ([a, b].any fun | .Starred .. => true | _ => false) = false := by
    cases a <;> first | (cases h5; done) | (cases b <;> first | (cases h6; done) | rfl)
  have k1 : X.env.kindOf x = some .local := h1
  have k2' : X.env.kindOf y = some .local := h2
  have yx : (y == x) = false := by
    rw [← h4]
    exact Bool.eq_iff_iff.mpr ⟨fun z => by rw [beq_iff_eq] at z ⊢; exact z.symm, fun z => by rw [beq_iff_eq] at z ⊢; exact z.symm⟩
  have ed : [x, y].eraseDups = [x, y] := by
    rw [List.eraseDups_cons]
    simp only [List.filter_cons, List.filter_nil, yx, Bool.not_false, if_true]
    rw [List.eraseDups_cons]
    rfl
  have f7 : ¬ (foldedForSure 8 a = true ∧ foldedForSure 8 b = true) := fun ⟨z1, z2⟩ => by simp [z1, z2] at h7
  have f8 : ¬ (constantsAlone 8 a = true ∧ constantsAlone 8 b = true) := fun ⟨z1, z2⟩ => by simp [z1, z2] at h8
  unfold swappedStores
  simp [bd.bk, k1, k2', h3, Expr.pos]
  rw [if_neg, if_pos (by rw [ed]; rfl), if_neg f7, if_neg f8]
  intro z
  rcases z with z | z
  · exact star_match z h5
  · exact star_match z h6
theorem st_noTup {tg e : Expr} (h : noTup e = true) (env : Env) : swappedStores [tg] e env = pure none := by
  cases e <;> first | (cases h; done) | (cases tg <;> rfl)
theorem few1 {X : Cx} {e : Expr} (h : noStar e = true) (cpos : Pos) : ((backTo cpos (starEach [e] X.env)).all (fun x => !x.1) && (backToKw cpos (keywordEach [] X.env)).all (fun x => x.1.isSome) && decide ([e].length + ([] : List Keyword).length + (if ([] : List Keyword).isEmpty then 0 else 1) < 30)) = true := by
  rw [star_by h]; rfl
theorem few2 {X : Cx} {e e' : Expr} (h : noStar e = true) (h' : noStar e' = true) (cpos : Pos) : ((backTo cpos (starEach [e, e'] X.env)).all (fun x => !x.1) && (backToKw cpos (keywordEach [] X.env)).all (fun x => x.1.isSome) && decide ([e, e'].length + ([] : List Keyword).length + (if ([] : List Keyword).isEmpty then 0 else 1) < 30)) = true := by
  rw [star_by h, star_by h']; rfl
mutual
theorem embS_ok : ∀ (m : MS) {e : Stmt} {X : Cx}, Gd C Γ Gs k X → Bd X → embS X.N Γ Gs X.env.scope m e = true → SS C Γ k X m e
  | .frz _, e, X, g, bd, h => by unfold embS at h; cases h
  | .kil _, e, X, g, bd, h => by unfold embS at h; cases h
  | .asg (.nm i) m, e, X, g, bd, h => by
    unfold embS at h
    split at h
    · simp only [Bool.and_eq_true, decide_eq_true_eq] at h
      obtain ⟨⟨h1, h2⟩, h3⟩ := h
      obtain ⟨t, it, c, e', rfl⟩ := lc_form h3
      exact ss_lc g bd h1 h2 h3
    · simp only [Bool.and_eq_true, decide_eq_true_eq] at h
      obtain ⟨⟨h1, h2⟩, h3, h4⟩ := h
      exact ss_asg (embE_ok m g h4).v (pg_name g.nd h1 (loc_by h2) (.inl (bd.fn _))) (swS_by h3 _ _) (by rename_i e _ _; cases e <;> rfl) rfl
    · cases h
  | .asg (.tup is) m, e, X, g, bd, h => by
    unfold embS at h
    split at h
    · simp only [Bool.and_eq_true] at h
      obtain ⟨h1, h2, h3, h4⟩ := h
      exact ss_asg (embE_ok m g h4).v (pg_by (t := .tup is) (locC X.env.scope) g.calm g.nd bd.ok h1) (swS_by h3 _ _) (st_noTup h2 _) rfl
    · cases h
  | .par i j m m', e, X, g, bd, h => by
    unfold embS at h
    split at h
    · simp only [Bool.and_eq_true, decide_eq_true_eq] at h
      obtain ⟨⟨h1, h2⟩, h3, h4, h5, h6⟩ := h
      obtain ⟨p1, p2, p3⟩ := par_by bd h4
      have n := par_st h4
      have A := embAs_ok (X := X) (.cons m (.cons m' .nil)) g (show embAs X.N Γ Gs X.env.scope _ [_, _] = true by
        unfold embAs
        simp only [Bool.and_eq_true]
        refine ⟨n.1, h5, ?_⟩
        unfold embAs
        simp only [Bool.and_eq_true]
        refine ⟨n.2, h6, ?_⟩
        unfold embAs
        rfl)
      exact ss_par g A.av h1 h2 h3 p1 p2 p3
    · cases h
  | .aug i m, e, X, g, bd, h => by
    unfold embS at h
    split at h
    · simp only [Bool.and_eq_true] at h
      exact ss_aug g (nm_by h.1) (loc_by h.2.1) (.inl (bd.fn _)) (embE_ok m g h.2.2).v
    · cases h
  | .set1 i k' m, e, X, g, bd, h => by
    unfold embS at h
    split at h
    · simp only [Bool.and_eq_true] at h
      obtain ⟨h1, h2, h3, h4⟩ := h
      exact ss_set1 (nm_by h1) (embE_ok k' g h3).v (embE_ok m g h4).v (slice_by h2) (by rename_i e _; cases e <;> rfl) (fun a b => pg_sub a b set_list (sub_by h2 _))
    · cases h
  | .set2 i k' l m, e, X, g, bd, h => by
    unfold embS at h
    split at h
    · simp only [Bool.and_eq_true] at h
      obtain ⟨h1, ⟨h2, h3⟩, h4, h5, h6⟩ := h
      exact ss_set2 (nm_by h1) (embE_ok k' g h4).v (embE_ok l g h5).v (embE_ok m g h6).v (slice_by h2) (by rename_i e _; cases e <;> rfl) (fun a b => pg_sub a b set_list (sub_by h3 _))
    · cases h
  | .app i m, e, X, g, bd, h => by
    unfold embS at h
    split at h
    · simp only [Bool.and_eq_true, decide_eq_true_eq] at h
      obtain ⟨h1, ⟨rfl, h2⟩, h3, h4⟩ := h
      exact ss_app (nm_by h1) (embE_ok m g h4).v (star_by h3 _ _) (few1 h3 _) h2
    · cases h
  | .ext i m, e, X, g, bd, h => by
    unfold embS at h
    split at h
    · simp only [Bool.and_eq_true, decide_eq_true_eq] at h
      obtain ⟨h1, ⟨rfl, h2⟩, h3, h4⟩ := h
      exact ss_ext (nm_by h1) (embE_ok m g h4).p (star_by h3 _ _) ⟨few1 h3 _, h2⟩
    · cases h
  | .ins i k' m, e, X, g, bd, h => by
    unfold embS at h
    split at h
    · simp only [Bool.and_eq_true, decide_eq_true_eq] at h
      obtain ⟨h1, ⟨rfl, h2⟩, ⟨h3, h4⟩, h5, h6⟩ := h
      exact ss_ins (nm_by h1) (embE_ok k' g h5).v (embE_ok m g h6).v (star_by h3 _ _) (star_by h4 _ _) (by rw [star_by h4]; rfl) ⟨few2 h3 h4 _, h2⟩
    · cases h
  | .pop t i m, e, X, g, bd, h => by
    unfold embS at h
    split at h
    · simp only [Bool.and_eq_true, decide_eq_true_eq] at h
      obtain ⟨h1, ⟨rfl, h2⟩, ⟨h3, h4⟩, h5, h6⟩ := h
      exact ss_pop (nm_by h1) (embE_ok m g h6).v (star_by h5 _ _) ⟨few1 h5 _, h2⟩ (pg_name g.nd h3 (loc_by h4) (.inl (bd.fn _)))
    · cases h
  | .exp m, e, X, g, bd, h => by
    unfold embS at h
    split at h
    · simp only [Bool.and_eq_true] at h
      exact ss_exp (embE_ok m g h.2).p (swN_by h.1 _ _ _)
    · cases h
  | .ret m, e, X, g, bd, h => by
    unfold embS at h
    split at h
    · exact ss_ret (embE_ok m g h).v
    · cases h
  | .retv i, e, X, g, bd, h => by
    unfold embS at h
    split at h
    · have n := nm_by h
      exact ss_retv n.hN n.hv n.hd n.hcd
    · cases h
  | .retN, e, X, g, bd, h => by
    unfold embS at h
    split at h
    · exact ss_retN
    · cases h
  | .ite c a b, e, X, g, bd, h => by
    unfold embS at h
    split at h
    · simp only [Bool.and_eq_true] at h
      exact ss_ite (embE_ok c g h.1).t (embSs_ok a g bd h.2.1) (embSs_ok b g bd h.2.2)
    · cases h
  | .loop t it body kl, e, X, g, bd, h => by
    unfold embS at h
    split at h
    · simp only [Bool.and_eq_true] at h
      obtain ⟨⟨h1, h2⟩, h3, h4⟩ := h
      exact ss_loop g (embI_ok it g h3) (pg_by (locC X.env.scope) g.calm g.nd bd.ok h1) (embSs_ok body g bd h4) (set_by h2 _)
    · cases h
  | .while n c body kl, e, X, g, bd, h => by
    unfold embS at h
    split at h
    · simp only [Bool.and_eq_true] at h
      exact ss_while g (embE_ok c g h.1).t (embSs_ok body g bd h.2)
    · cases h
  | .brk, e, X, g, bd, h => by
    unfold embS at h
    split at h
    · exact ss_brk
    · cases h
  | .cont, e, X, g, bd, h => by
    unfold embS at h
    split at h
    · exact ss_cont
    · cases h
  | .pass, e, X, g, bd, h => by
    unfold embS at h
    split at h
    · exact ss_pass
    · cases h
  | .appm i j, e, X, g, bd, h => by
    unfold embS at h
    split at h
    · simp only [Bool.and_eq_true, decide_eq_true_eq] at h
      obtain ⟨h1, ⟨rfl, h2⟩, h3⟩ := h
      exact ss_appm (nm_by h1) (nm_by h3) (star_by rfl _ _) (few1 rfl _) h2
    · cases h
  | .spoil t i, e, X, g, bd, h => by
    unfold embS at h
    split at h
    · simp only [Bool.and_eq_true, decide_eq_true_eq] at h
      obtain ⟨h1, h2, h3, h4, rfl, h5⟩ := h
      exact ss_spoil g (nm_by h2) (nm_by h3) (nm_by h4) (pg_by (locC X.env.scope) g.calm g.nd bd.ok h1) h5
    · cases h
  | .app0 i, e, X, g, bd, h => by
    unfold embS at h
    split at h
    · simp only [Bool.and_eq_true, decide_eq_true_eq] at h
      obtain ⟨h1, rfl, h2⟩ := h
      exact ss_app0 (nm_by h1) h2
    · cases h
  | .mv i j, e, X, g, bd, h => by
    unfold embS at h
    split at h
    · simp only [Bool.and_eq_true, decide_eq_true_eq] at h
      exact ss_mv (nm_by h.1) (pg_name g.nd h.2.1 (loc_by h.2.2) (.inl (bd.fn _)))
    · cases h
  | .raise c, e, X, g, bd, h => ss_nev fun env s R w => by rw [run] at w; exact w
theorem embSs_ok : ∀ (m : MSs) {es : List Stmt} {X : Cx}, Gd C Γ Gs k X → Bd X → embSs X.N Γ Gs X.env.scope m es = true → SSs C Γ k X m es
  | .nil, es, X, g, bd, h => by
    cases es with
    | nil => exact sss_nil
    | cons e es => unfold embSs at h; cases h
  | .cons m ms, es, X, g, bd, h => by
    unfold embSs at h
    split at h
    · cases ‹MSs.cons m ms = MSs.nil›
    · cases ‹MSs.cons m ms = _›
      exact sss_frz (embSs_ok ms g bd h)
    · cases ‹MSs.cons m ms = _›
      exact sss_kil (embSs_ok ms g bd h)
    · cases ‹MSs.cons m ms = _›
      simp only [Bool.and_eq_true] at h
      exact sss_cons (embS_ok m g bd h.1) (embSs_ok ms g bd h.2)
    · cases h
end
end
end Mp

namespace Mp
open PySem PySem.Spec
open PyProof.Rows L2
/-- a def of the module, its text looked at -/
structure DefOk (K : PySem.W.Frag) (mg : Str → Option Value) (Γ : String → Option MDef) (Gs : String → Option Int) (f : String) (md : MDef) : Prop where
  ex : ∃ (N ps : List Str) (params : Arguments) (body : List Stmt) (scope : Scope) (fa : Addr) (fd : FuncData), FunD K (Str.ofString f) (Str.ofString f) params body scope [] [] fa fd ∧ FnScope N ps scope ∧ ps.length = md.np ∧ N.length = md.n ∧
    mg (Str.ofString f) = some (.ref fa) ∧ Binds K fd ps [] ∧ embSs N Γ Gs scope md.body body = true
def FnAt (P : Program) (w : World) (K : PySem.W.Frag) (mg : Str → Option Value) (base : Heap) (C : Addr) (Γ : String → Option MDef) (k : Nat) : Prop :=
  ∀ f md, Γ f = some md → ∃ fa fd ps, FnOk P w K mg base CX0 (BASE + k) fa fd ps (spEv K C Γ k f md.np) ∧ mg (Str.ofString f) = some (.ref fa) ∧ PySem.W.keepIn K (.ref fa) = true ∧ Binds K fd ps []
section
variable {P : Program} {w : World} {K : PySem.W.Frag} {mg : Str → Option Value} {base : Heap} {C : Addr} {Γ : String → Option MDef} {Gs : String → Option Int} {k : Nat}
variable {p0 : Option Addr} {H : Hp} {G : GS}
theorem repE_start : ∀ {ds : List D} {vs : List V} (n : Nat), Reps K C p0 H G ds vs [] → RepE K C p0 H G (ds.map some ++ List.replicate n none) (vs.map some ++ List.replicate n none) []
  | [], vs, n, r => by
    obtain ⟨rfl, _⟩ := Reps.nil_iff.mp r
    show RepE K C p0 H G (List.replicate n none) (List.replicate n none) []
    induction n with
    | zero => exact RepE.nil_iff.mpr ⟨rfl, rfl⟩
    | succ n ih => exact RepE.none_iff.mpr ⟨none, _, rfl, ih⟩
  | d :: ds, vs, n, r => by
    obtain ⟨v, r', f, g, rfl, e, a, b⟩ := Reps.cons_iff.mp r
    obtain ⟨rfl, rfl⟩ := List.append_eq_nil_iff.mp e.symm
    exact RepE.some_iff.mpr ⟨v, _, [], [], rfl, rfl, a, repE_start n b⟩
theorem stx_start {ds : List D} {vs : List V} {s : Strm} (n : Nat) (r : Reps K C p0 H G ds vs []) (st : StAt p0 H G s) (gs : ∀ p, G p → some p ≠ p0 ∧ ∃ o, H p = some o) :
    StX K C p0 H G H G s (ds.map some ++ List.replicate n none) (vs.map some ++ List.replicate n none) :=
  ⟨Grow.rfl', st, gs, [], repE_start n r, .nil, by simp⟩
theorem fn_step (hw : Wd P w K mg base C Γ Gs k) (hd : ∀ f md, Γ f = some md → DefOk K mg Γ Gs f md) : FnAt P w K mg base C Γ (k + 1) := by
  intro f md hf
  obtain ⟨N, ps, params, body, scope, fa, fd, F, S, l1, l2, hm, hb, em⟩ := (hd f md hf).ex
  refine ⟨fa, fd, ps, ?_, hm, F.kp, hb⟩
  show FnOk P w K mg base CX0 (BASE + k + 1) fa fd ps _
  refine F.ok S (fun vs H Q E h => by rw [l1]; exact h.1) fun cdv A outer s H vs Q E hr h => ?_
  obtain ⟨hl, p0, st, G, ds, sa, gs, rs, hw'⟩ := h
  have g : Gd C Γ Gs k (cxOf CX0 P w K mg base N (Str.ofString f) scope fa cdv A outer s H E).nox := ⟨hw, rfl, PassesOwn.never, S.nd, hr⟩
  have bd : Bd (cxOf CX0 P w K mg base N (Str.ofString f) scope fa cdv A outer s H E).nox := ⟨S.kind, fun _ => rfl⟩
  obtain ⟨t, a, b⟩ := embSs_ok md.body (X := (cxOf CX0 P w K mg base N (Str.ofString f) scope fa cdv A outer s H E).nox) g bd em
  refine ⟨t, PSs.nox a, ?_⟩
  rw [callF, hf] at hw'
  obtain ⟨hnp, hw'⟩ := W_guard.mp (W_bind.mp hw')
  have x := stx_start (md.n - md.np) rs sa gs
  have e : L2.start N vs = vs.map some ++ List.replicate (md.n - md.np) none := by
    unfold L2.start
    rw [l2, hl]
  rw [e]
  refine b p0 H G H G st _ _ _ x (W_mono (W_bind.mp hw') fun r s' q => ?_)
  cases r with
  | nx env' => exact fun H' G' σ' _ x' => (show ∀ H' G' v fp, Grow p0 H G H' G' → StAt p0 H' G' s' → (∀ p, G' p → some p ≠ p0 ∧ ∃ o, H' p = some o) → Rep K C p0 H' G' .non v fp → fp.Nodup → (∀ a ∈ fp, H a = none) → Q v H' from q) H' G' .non [] x'.grow x'.strm x'.gs non_rep .nil (by simp)
  | ret d => exact fun H' G' v fp g' sa' gs' r' n f' => (show ∀ H' G' v fp, Grow p0 H G H' G' → StAt p0 H' G' s' → (∀ p, G' p → some p ≠ p0 ∧ ∃ o, H' p = some o) → Rep K C p0 H' G' d v fp → fp.Nodup → (∀ a ∈ fp, H a = none) → Q v H' from q) H' G' v fp g' sa' gs' r' n f'
  | brk e => exact q.elim
  | cont e => exact q.elim
theorem fn_zero (hd : ∀ f md, Γ f = some md → DefOk K mg Γ Gs f md) : FnAt P w K mg base C Γ 0 := by
  intro f md hf
  obtain ⟨N, ps, params, body, scope, fa, fd, F, S, l1, l2, hm, hb, em⟩ := (hd f md hf).ex
  refine ⟨fa, fd, ps, ⟨fun vs H Q E h => by rw [l1]; exact h.1, fun A outer s H args us vs Q E hr he hb hv h => ?_⟩, hm, F.kp, hb⟩
  obtain ⟨hl, p0, st, G, ds, sa, gs, rs, hw'⟩ := h
  exact hw'.elim
theorem wd_all (h0 : ∀ k, FnAt P w K mg base C Γ k → Wd P w K mg base C Γ Gs k) (hd : ∀ f md, Γ f = some md → DefOk K mg Γ Gs f md) : ∀ k, Wd P w K mg base C Γ Gs k
  | 0 => h0 0 (fn_zero hd)
  | k + 1 => h0 (k + 1) (fn_step (wd_all h0 hd k) hd)
/-! ### the law's own def -/
theorem repE_nones : ∀ {n : Nat} {r : List (Option V)}, r.length = n → RepE K C p0 H G (List.replicate n none) r []
  | 0, r, h => by
    cases r with
    | nil => exact RepE.nil_iff.mpr ⟨rfl, rfl⟩
    | cons a r => cases h
  | n + 1, r, h => by
    cases r with
    | nil => cases h
    | cons a r => exact RepE.none_iff.mpr ⟨a, r, rfl, repE_nones (Nat.succ.inj h)⟩
/-- a list that was made becomes the stream -/
theorem stx_strm {rr : List (Option V)} {ns : List Int} {d : D} {v1 v2 : V} {f1 f2 : List Addr} {st : Strm} (n : Nat) (gs : ∀ p, G p → some p ≠ none ∧ ∃ o, H p = some o) (r1 : Rep K C none H G (.scr ns) v1 f1) (r2 : Rep K C none H G d v2 f2) (nd : f2.Nodup) (e : strmD d = some st) (hl : st.cells.length ≤ LIM) (hr : rr.length = n) :
    ∃ p G', StX K C (some p) H G' H G' st (some (.scr ns) :: some .strm :: List.replicate n none) (some v1 :: some v2 :: rr) := by
  unfold strmD at e
  split at e
  · rename_i o cs c i m
    obtain ⟨p, vs, f', rfl, hp, np, rs, nG, rfl, pin, nf'⟩ := own_of r2 nd
    obtain ⟨ns', hi, rfl⟩ : ∃ ns', intsD cs = some ns' ∧ st = ⟨ns', c, i, m⟩ := by
      cases hc : intsD cs with
      | none => rw [hc] at e; cases e
      | some ns' => rw [hc] at e; cases e; exact ⟨_, rfl, rfl⟩
    obtain ⟨w1, vr, g1, g2, rfl, rfl, ra, rb⟩ := Reps.cons_iff.mp rs
    obtain ⟨w2, w3, w4, rfl, q2, q3, q4⟩ : ∃ w2 w3 w4, vr = [w2, w3, w4] ∧ w2 = .int c ∧ w3 = .int i ∧ w4 = .int m := by
      obtain ⟨w2, r2, _, _, rfl, _, a2, b2⟩ := Reps.cons_iff.mp rb
      obtain ⟨w3, r3, _, _, rfl, _, a3, b3⟩ := Reps.cons_iff.mp b2
      obtain ⟨w4, r4, _, _, rfl, _, a4, b4⟩ := Reps.cons_iff.mp b3
      obtain ⟨rfl, _⟩ := Reps.nil_iff.mp b4
      exact ⟨_, _, _, rfl, int_of a2, int_of a3, int_of a4⟩
    subst q2 q3 q4
    obtain ⟨pc, ws, gg, rfl, hpc, _, rc, hor⟩ := lst_of ra
    have e2 := reps_ints rc hi
    subst e2
    have ne : pc ≠ p := by
      rw [Rep] at ra
      obtain ⟨p', vs', f'', e', h1, _, _, h3⟩ := ra
      cases e'
      rcases h3 with ⟨_, _, rfl⟩ | ⟨_, hg, _⟩
      · exact fun z => pin (List.mem_append_left _ (by rw [z]; exact List.mem_cons_self))
      · exact fun z => nG (z ▸ hg)
    refine ⟨p, fun a => G a ∨ a = pc, ⟨Grow.rfl', fun q hq => ?_, fun a ha => ?_, [], ?_, .nil, by simp⟩⟩
    · cases hq
      exact ⟨pc, hp, hpc, ne, .inr rfl, hl⟩
    · rcases ha with ha | rfl
      · exact ⟨fun z => nG (by cases z; exact ha), (gs a ha).2⟩
      · exact ⟨fun z => ne (by cases z; rfl), _, hpc⟩
    · refine RepE.some_iff.mpr ⟨v1, _, [], [], rfl, rfl, ?_, RepE.some_iff.mpr ⟨.ref p, _, [], [], rfl, rfl, ?_, ?_⟩⟩
      · rw [Rep] at r1 ⊢
        exact ⟨r1.1, rfl⟩
      · rw [Rep]
        exact ⟨p, rfl, rfl, rfl⟩
      · exact repE_nones hr
  · cases e
/-- the law, by values -/
def LawOk (Γ : String → Option MDef) (k n : Nat) (rest : MSs) : Prop := ∀ ns : List Int, ns.length ≤ 63 → ∃ d st, callF Γ k "_law_stream" [.scr ns] ⟨[], 0, 0, 0⟩ = .ok d ⟨[], 0, 0, 0⟩ ∧ strmD d = some st ∧ st.cells.length ≤ LIM ∧
  ∃ s', runs (callF Γ k) (some (.scr ns) :: some .strm :: List.replicate n none) rest st = .ok (.ret (.bl true)) s'
def spLaw (K : PySem.W.Frag) : Sp := fun vs H Q _ => ∃ (a : Addr) (ns : List Int), vs = [.ref a] ∧ ns.length ≤ 63 ∧ Scr K H a ns ∧ ∀ H', Q (.bl true) H'
theorem scr_of {K : PySem.W.Frag} {H : Hp} {a : Addr} {ns : List Int} (ho : Only H) (h : SqL K H a (ns.map V.int)) : Scr K H a ns := by
  rcases h with (h | ⟨o, h⟩) | h
  · rcases ho a with z | ⟨o, xs, z⟩
    · rw [h] at z; cases z
    · rw [h] at z; cases z
  · exact .inl ⟨o, h⟩
  · exact .inr h
theorem law_fn {N : List Str} {params : Arguments} {body : List Stmt} {scope : Scope} {fa : Addr} {fd : FuncData} {n : Nat} {rest : MSs} (hw : Wd P w K mg base C Γ Gs k) (F : FunD K "law" "law" params body scope [] [] fa fd) (S : FnScope N ["_law_script"] scope) (hn : N.length = n + 2)
    (em : embSs N Γ Gs scope (.cons (.asg (.nm 1) (.call "_law_stream" (.cons (.var 0) .nil))) rest) body = true) (hl : LawOk Γ k n rest) : FnOk P w K mg base CX0 (BASE + k + 1) fa fd ["_law_script"] (spLaw K) := by
  refine F.ok S (fun vs H Q E h => ?_) fun cdv A outer s H vs Q E hr h => ?_
  · obtain ⟨a, ns, rfl, _⟩ := h; rfl
  obtain ⟨a, ns, rfl, hlen, hscr, hQ⟩ := h
  have g : Gd C Γ Gs k (cxOf CX0 P w K mg base N "law" scope fa cdv A outer s H E).nox := ⟨hw, rfl, PassesOwn.never, S.nd, hr⟩
  have bd : Bd (cxOf CX0 P w K mg base N "law" scope fa cdv A outer s H E).nox := ⟨S.kind, fun _ => rfl⟩
  cases body with
  | nil => unfold embSs at em; cases em
  | cons e1 es =>
    unfold embSs at em
    simp only [Bool.and_eq_true] at em
    obtain ⟨t1, a1, b1⟩ := embS_ok _ (X := (cxOf CX0 P w K mg base N "law" scope fa cdv A outer s H E).nox) g bd em.1
    obtain ⟨t2, a2, b2⟩ := embSs_ok rest (X := (cxOf CX0 P w K mg base N "law" scope fa cdv A outer s H E).nox) g bd em.2
    refine ⟨_, PSs.nox (pss_cons a1 a2), ?_⟩
    obtain ⟨d, st, h1, h2, h3, s', h4⟩ := hl ns hlen
    have r0 : Rep K C none H (fun _ => False) (.scr ns) (.ref a) [] := by rw [Rep]; exact ⟨⟨a, rfl, hscr⟩, rfl⟩
    have x0 := stx_start (s := ⟨[], 0, 0, 0⟩) (n + 1) (Reps.cons r0 Reps.nil) (fun p hp => by cases hp) (fun p hp => hp.elim)
    have e0 : L2.start N [V.ref a] = some (.ref a) :: List.replicate (n + 1) none := by
      unfold L2.start
      rw [hn]; rfl
    rw [e0]
    refine b1 none H (fun _ => False) H (fun _ => False) ⟨[], 0, 0, 0⟩ _ _ _ x0 ?_
    rw [run, ev]
    refine W_bind.mpr (W_bind.mpr ?_)
    rw [evas]
    refine W_bind.mpr ?_
    rw [ev]
    show W (do guardM (Md.p ≠ .v ∨ D.noOwn (.scr ns) = true); pure (D.scr ns)) _ _
    refine W_bind.mpr (W_guard.mpr ⟨.inl (by decide), ?_⟩)
    refine W_pure.mpr (W_bind.mpr ?_)
    rw [evas]
    refine W_pure.mpr (W_pure.mpr ?_)
    show W (do let d ← callF Γ k "_law_stream" [.scr ns]; guardM (d.noShr = true ∨ D.noOwns [D.scr ns] = true); pure d) _ _
    refine W_bind.mpr ?_
    have w1 : ∀ R : D → Strm → Prop, R d ⟨[], 0, 0, 0⟩ → W (callF Γ k "_law_stream" [.scr ns]) ⟨[], 0, 0, 0⟩ R := fun R hR => by
      unfold W
      rw [h1]
      exact hR
    refine w1 _ ?_
    show W (do guardM (d.noShr = true ∨ D.noOwns [D.scr ns] = true); pure d) _ _
    refine W_bind.mpr (W_guard.mpr ⟨.inr rfl, ?_⟩)
    intro H1 G1 σ1 ev1 x1
    obtain ⟨fp, re, nfp, _⟩ := x1.env
    obtain ⟨v1, r, f1, g1, rfl, rfl, ra, rb⟩ := RepE.some_iff.mp (show RepE K C none H1 G1 (some (.scr ns) :: some d :: List.replicate n none) σ1 fp from re)
    obtain ⟨v2, r', f2, g2, rfl, rfl, rc, rd⟩ := RepE.some_iff.mp rb
    obtain ⟨p, G', x2⟩ := stx_strm n x1.gs ra rc (nodup_app.mp (nodup_app.mp nfp).2.1).1 h2 h3 (by rw [← rd.length, List.length_replicate])
    refine b2 (some p) H1 G' H1 G' st _ _ _ x2 ?_
    unfold W
    rw [h4]
    intro H2 G2 v fp _ _ _ r _ _
    rw [bl_of r]
    exact hQ H2
end
end Mp

namespace Mp
open PySem PySem.Spec
open PyProof.Rows L2
/-! ### lowest terms -/
def dvr (n d : Int) : Int := if d < 0 then -(Int.gcd n d : Int) else (Int.gcd n d : Int)
theorem dvr_num {n d : Int} (h : d ≠ 0) : n.fdiv (dvr n d) = (Rat.divInt n d).num := by
  rw [Rat.num_divInt]
  unfold dvr
  rw [Int.gcd_comm d n]
  by_cases hd : d < 0
  · rw [if_pos hd, Int.sign_eq_neg_one_of_neg hd]
    have e : n.fdiv (-(Int.gcd n d : Int)) = (-n).fdiv (Int.gcd n d : Int) := by
      have := Int.neg_fdiv_neg (-n) (Int.gcd n d : Int)
      rw [Int.neg_neg] at this
      exact this
    rw [e, Int.fdiv_eq_ediv_of_nonneg _ (Int.natCast_nonneg _)]
    congr 1
    omega
  · rw [if_neg hd, Int.sign_eq_one_of_pos (by omega), Int.fdiv_eq_ediv_of_nonneg _ (Int.natCast_nonneg _), Int.one_mul]
theorem dvr_den {n d : Int} (h : d ≠ 0) : d.fdiv (dvr n d) = ((Rat.divInt n d).den : Int) := by
  rw [Rat.den_divInt, if_neg h]
  unfold dvr
  rw [Int.gcd_comm d n]
  by_cases hd : d < 0
  · rw [if_pos hd]
    have e : d.fdiv (-(Int.gcd n d : Int)) = (-d).fdiv (Int.gcd n d : Int) := by
      have := Int.neg_fdiv_neg (-d) (Int.gcd n d : Int)
      rw [Int.neg_neg] at this
      exact this
    rw [e, Int.fdiv_eq_ediv_of_nonneg _ (Int.natCast_nonneg _), Int.natCast_ediv]
    congr 1
    omega
  · rw [if_neg hd, Int.fdiv_eq_ediv_of_nonneg _ (Int.natCast_nonneg _), Int.natCast_ediv]
    congr 1
    omega
theorem dvr_ne {n d : Int} (h : d ≠ 0) : dvr n d ≠ 0 := by
  have : (Int.gcd n d : Int) ≠ 0 := by
    intro z
    have := Int.gcd_eq_zero_iff.mp (Int.ofNat_eq_zero.mp z)
    exact h this.2
  unfold dvr
  split <;> omega
theorem dvr_log {n d : Int} (h : d ≠ 0) (c : d.natAbs.log2 < 9000) : (dvr n d).natAbs.log2 < 9000 := by
  have e : (dvr n d).natAbs = Int.gcd n d := by
    unfold dvr
    split <;> simp
  rw [e]
  have h1 : Int.gcd n d ≤ d.natAbs := Nat.le_of_dvd (by omega) (Int.gcd_dvd_natAbs_right n d)
  have hd0 : d.natAbs ≠ 0 := by omega
  have hg0 : Int.gcd n d ≠ 0 := fun z => h (Int.gcd_eq_zero_iff.mp z).2
  have := (Nat.log2_lt hd0).mp c
  exact (Nat.log2_lt hg0).mpr (by omega)
theorem gcd_step {a b : Int} : Int.gcd b (a.fmod b) = Int.gcd a b := by
  have e : a.fmod b = a - b * a.fdiv b := Int.fmod_def a b
  rw [e, Int.sub_eq_add_neg, ← Int.mul_neg, Int.mul_comm, Int.gcd_comm b, Int.gcd_comm a b]
  rw [Int.gcd_comm]
  exact Int.gcd_add_mul_right_right ..
theorem fmod_lt {a b : Int} (h : b ≠ 0) : (a.fmod b).natAbs < b.natAbs := by
  rcases Int.lt_or_gt_of_ne h with h | h
  · have e : (-a).fmod (-b) = -(a.fmod b) := by
      rw [Int.fmod_def, Int.fmod_def, Int.neg_fdiv_neg, Int.neg_mul]
      omega
    have h1 := Int.fmod_nonneg_of_pos (-a) (b := -b) (by omega)
    have h2 := Int.fmod_lt_of_pos (-a) (b := -b) (by omega)
    rw [e] at h1 h2
    omega
  · have h1 := Int.fmod_nonneg_of_pos a h
    have h2 := Int.fmod_lt_of_pos a h
    omega
theorem sm_log {a b : Rat} (h : Sm a) (h' : Sm b) : ((a.den : Int) * (b.den : Int)).natAbs.log2 < 9000 := by
  have e : ((a.den : Int) * (b.den : Int)).natAbs = a.den * b.den := by rw [Int.natAbs_mul, Int.natAbs_natCast, Int.natAbs_natCast]
  rw [e]
  have h0 : a.den * b.den ≠ 0 := Nat.mul_ne_zero a.den_nz b.den_nz
  refine (Nat.log2_lt h0).mpr ?_
  have h1 := h.den
  have h2 := h'.den
  have : a.den * b.den < 2 ^ BIT * 2 ^ BIT := Nat.mul_lt_mul'' h1 h2
  rw [← Nat.pow_add] at this
  exact Nat.lt_of_lt_of_le this (Nat.pow_le_pow_right (by decide) (by unfold BIT; omega))
theorem log_bit {n : Nat} (h : n < 2 ^ BIT) : n.log2 < 4491 := by
  by_cases h0 : n = 0
  · rw [h0]; decide
  · exact Nat.lt_succ_of_lt ((Nat.log2_lt h0).mpr h)
theorem sm_mul {i j : Int} (h : i.natAbs < 2 ^ BIT) (h' : j.natAbs < 2 ^ BIT) : mulOk i j := by
  have := log_bit h
  have := log_bit h'
  unfold mulOk
  omega
theorem rat_den_ne {a b : Rat} : ((a.den : Int) * (b.den : Int)) ≠ 0 := Int.mul_ne_zero (by have := a.den_nz; omega) (by have := b.den_nz; omega)
theorem rat_addE (a b : Rat) : Rat.divInt (a.num * b.den + b.num * a.den) (a.den * b.den) = a + b := by
  have := Rat.divInt_add_divInt a.num b.num (d₁ := a.den) (d₂ := b.den) (by have := a.den_nz; omega) (by have := b.den_nz; omega)
  rw [← this, Rat.num_divInt_den, Rat.num_divInt_den]
theorem rat_subE (a b : Rat) : Rat.divInt (a.num * b.den - b.num * a.den) (a.den * b.den) = a - b := by
  have := Rat.divInt_sub_divInt a.num b.num (d₁ := a.den) (d₂ := b.den) (by have := a.den_nz; omega) (by have := b.den_nz; omega)
  rw [← this, Rat.num_divInt_den, Rat.num_divInt_den]
theorem rat_mulE (a b : Rat) : Rat.divInt (a.num * b.num) (a.den * b.den) = a * b := by
  have := Rat.divInt_mul_divInt a.num b.num (d₁ := a.den) (d₂ := b.den)
  rw [← this, Rat.num_divInt_den, Rat.num_divInt_den]
theorem rat_negE (a : Rat) : Rat.divInt (-a.num) a.den = -a := by
  rw [← Rat.neg_divInt, Rat.num_divInt_den]
theorem rat_eqE (a b : Rat) : (if decide (a.num = b.num) = true then decide ((a.den : Int) = b.den) else false) = (a == b) := by
  by_cases h : a = b
  · subst h; simp
  · have : (a == b) = false := by simpa using h
    rw [this]
    by_cases h1 : a.num = b.num
    · rw [if_pos (decide_eq_true h1)]
      refine decide_eq_false fun z => h (Rat.ext h1 (by omega))
    · rw [if_neg (by simpa using h1)]
end Mp

namespace Mp
open PySem PySem.Spec
open PyProof.Rows L2
open PySem.W (InstAt Looks)
/-! ### operators of one's own class on two instances -/
theorem bin_same {prog : Program} {w : World} {A : Around} {E : Value → Shared → Prop} {s : Shared} {K : PySem.W.Frag} {x b C f : Addr} {ox ob : Obj} {od od' : Option Obj} {op : Operator} {Q : Value → Shared → Prop} (X : K.In s.heap) (I : InstAt s.heap x ox C od) (J : InstAt s.heap b ob C od') (hc : PySem.W.selfFirst K C = true)
    (hs : PySem.W.findIn K (.ref C) (PySem.dunder op.info.2) = some (some (.ref f))) (hf : PySem.W.isFn K (.ref f) = true)
    (h : wpAny (model prog w) A (call (.ref f) [.ref x, .ref b]) (PySem.W.CmpBack Q) E s) : wpAny (model prog w) A (binaryOp op (.ref x) (.ref b)) Q E s := by
  obtain ⟨cd, rest, hcd, hm⟩ := PySem.W.ksp_first hc
  rcases hi : op.info with ⟨sym, nm'⟩
  rw [hi] at hs
  dsimp only at hs
  have one := PySem.W.ksp_try X I hs hf h
  have L1 : Looks (model prog w) s.heap (typeOf (.ref x)) (.ref C) := I.type
  have L2 : Looks (model prog w) s.heap (typeOf (.ref b)) (.ref C) := J.type
  have L3 : Looks (model prog w) s.heap (fillsNumberSlot (.ref C) nm') true := PySem.W.fills_K X hcd hm hs
  simp only [binaryOp, hi]
  refine wpAny_holding (wpAny_bind ?_)
  unfold binaryOp1
  refine wpAny_bind (L1.here (wpAny_bind (L2.here (wpAny_bind (L3.here ?_)))))
  simp only [beq_self_eq_true, if_true, Bool.and_false, Bool.false_eq_true, if_false, Bool.true_and]
  refine wpAny_bind (wpAny_pure ?_)
  refine wpAny_bind (wpAny_pure ?_)
  refine wpAny_bind (wpAny_mono one (fun r s' z => ?_) fun _ _ e => e)
  obtain ⟨v, rfl, hq⟩ := z
  exact wpAny_pure (wpAny_pure hq)
theorem inst_of {X : Cx} {pins : List (Addr × Obj)} {σ : L2.St} {H : Hp} {s : Shared} {a C dx : Addr} {fs : List (Str × V)} (I : Inv X pins σ H s) (h : H a = some (.ins C dx fs)) : ∃ od, InstAt s.heap a (PySem.W.instObj C dx) C (some od) := by
  obtain ⟨mA, J, _⟩ := ins_get I.hok h
  obtain ⟨od, J, _⟩ := J.look
  exact ⟨od, J⟩
/-- a method of the class: the def, what it promises -/
structure MethOk (P : Program) (w : World) (K : PySem.W.Frag) (mg : Str → Option Value) (base : Heap) (C : Addr) (m : Str) (k : Nat) (sp : Sp) : Prop where
  ex : ∃ (f : Addr) (fd : FuncData) (ps : List Str), FnOk P w K mg base CX0 k f fd ps sp ∧ PySem.W.findIn K (.ref C) m = some (some (.ref f)) ∧ PySem.W.isFn K (.ref f) = true ∧ Binds K fd ps []
/-- what a binary operator's method promises -/
def spBin (C : Addr) (f : Rat → Rat → Rat) : Sp := fun vs H Q _ => ∃ p q a b, vs = [.ref p, .ref q] ∧ RatAt C H p a ∧ RatAt C H q b ∧ Sm a ∧ Sm b ∧ ∀ r H', Ex H H' → RatAt C H' r (f a b) → Q (.ref r) H'
theorem op_own {X : Cx} {C : Addr} {op : Operator} {k : Nat} {f : Rat → Rat → Rat} (M : MethOk X.prog X.w X.K X.mg X.base C (PySem.dunder op.info.2) k (spBin C f)) (hr : Room k X.A) (hc : PySem.W.selfFirst X.K C = true) : OpR X (binaryOp op) (rRat C f) := by
  intro pins s σ H x y v u Q I rx ry h
  obtain ⟨p, q, a, b, rfl, rfl, ⟨dx, fs, ha, ha'⟩, ⟨dy, gs, hb, hb'⟩, sa, sb, hq⟩ := h
  cases rx
  cases ry
  obtain ⟨fa, fd, ps, F, hs, hf, bd⟩ := M.ex
  obtain ⟨od, J⟩ := inst_of I ha
  obtain ⟨od', J'⟩ := inst_of I hb
  refine bin_same I.kIn J J' hc hs hf ?_
  refine wpAny_mono (run_fn (us := [.ref p, .ref q]) (vs := [.ref p, .ref q]) (ds := []) (dvs := []) (E := E0) F hr bd .nil pass0 I (.cons rfl (.cons rfl .nil)) (Q := fun v H' => ∃ r, v = .ref r ∧ Q (.ref r) H') ⟨p, q, a, b, rfl, ⟨dx, fs, ha, ha'⟩, ⟨dy, gs, hb, hb'⟩, sa, sb, fun r H' e hr => ⟨r, rfl, hq r H' e hr⟩⟩) (fun u s' z => ?_) fun _ _ e => e
  obtain ⟨v, H', I', rv, r, rfl, hq'⟩ := z
  cases rv
  exact ⟨.ref r, H', I', rfl, hq'⟩
def spNeg (C : Addr) : Sp := fun vs H Q _ => ∃ p a, vs = [.ref p] ∧ RatAt C H p a ∧ Sm a ∧ ∀ r H', Ex H H' → RatAt C H' r (-a) → Q (.ref r) H'
theorem neg_own {X : Cx} {C : Addr} {k : Nat} (M : MethOk X.prog X.w X.K X.mg X.base C "__neg__" k (spNeg C)) (hr : Room k X.A) : UnR X (unaryOp .USub) fun x H Q => ∃ p a, x = .ref p ∧ RatAt C H p a ∧ Sm a ∧ ∀ r H', Ex H H' → RatAt C H' r (-a) → Q (.ref r) H' := by
  intro pins s σ H x v Q I rx h
  obtain ⟨p, a, rfl, ⟨dx, fs, ha, ha'⟩, sa, hq⟩ := h
  cases rx
  obtain ⟨fa, fd, ps, F, hs, hf, bd⟩ := M.ex
  obtain ⟨od, J⟩ := inst_of I ha
  obtain ⟨m, hF⟩ := I.fr
  refine PySem.W.ksp_neg hF I.ok.mod.kin J hs hf ?_
  refine run_fn (us := [.ref p]) (vs := [.ref p]) (ds := []) (dvs := []) (E := E0) F hr bd .nil pass0 I (.cons rfl .nil) ⟨p, a, rfl, ⟨dx, fs, ha, ha'⟩, sa, hq⟩
/-- == or != of two fractions -/
def rRel (C : Addr) (neg : Bool) : R2 := fun x y H Q => ∃ p q a b, x = .ref p ∧ y = .ref q ∧ RatAt C H p a ∧ RatAt C H q b ∧ Q (.bl (if neg then !(a == b) else (a == b))) H
def spRel (C : Addr) (neg : Bool) : Sp := fun vs H Q _ => ∃ p q a b, vs = [.ref p, .ref q] ∧ RatAt C H p a ∧ RatAt C H q b ∧ Q (.bl (if neg then !(a == b) else (a == b))) H
theorem cmp_own {X : Cx} {C : Addr} {op : CmpOp} {k : Nat} {neg : Bool} (hop : ∀ v u, compareOp op v u = richCompare op v u) (M : MethOk X.prog X.w X.K X.mg X.base C (PySem.cmpInfo op).2.1 k (spRel C neg)) (hr : Room k X.A) : OpR X (compareOp op) (rRel C neg) := by
  intro pins s σ H x y v u Q I rx ry h
  obtain ⟨p, q, a, b, rfl, rfl, ⟨dx, fs, ha, ha'⟩, ⟨dy, gs, hb, hb'⟩, hq⟩ := h
  cases rx
  cases ry
  obtain ⟨fa, fd, ps, F, hs, hf, bd⟩ := M.ex
  obtain ⟨od, J⟩ := inst_of I ha
  obtain ⟨od', J'⟩ := inst_of I hb
  obtain ⟨m, hF⟩ := I.fr
  rw [hop]
  refine PySem.W.cmp_K (op := op) (tb := .ref C) hr.units0 hF I.ok.mod.kin J J'.type (by simp [PySem.W.notFirst]) hs hf ?_
  refine wpAny_mono (run_fn (us := [.ref p, .ref q]) (vs := [.ref p, .ref q]) (ds := []) (dvs := []) (E := E0) F hr bd .nil pass0 I (.cons rfl (.cons rfl .nil)) (Q := fun v H' => ∃ r, v = .bl r ∧ Q (.bl r) H') ⟨p, q, a, b, rfl, ⟨dx, fs, ha, ha'⟩, ⟨dy, gs, hb, hb'⟩, ⟨_, rfl, hq⟩⟩) (fun u s' z => ?_) fun _ _ e => e
  obtain ⟨v, H', I', rv, r, rfl, hq'⟩ := z
  cases rv
  exact ⟨.bl r, H', I', rfl, hq'⟩
end Mp

namespace Mp
open PySem PySem.Spec
open PyProof.Rows L2
mutual
def D.toP : D → PyData
  | .bl b => .bool b
  | .int i => .int i
  | .str s => .str s
  | .tup ds => .tuple (D.toPs ds)
  | .lst _ ds => .list (D.toPs ds)
  | .non => .none
  | .rat _ => .none
  | .strm => .none
  | .scr _ => .none
def D.toPs : List D → List PyData
  | [] => []
  | d :: ds => D.toP d :: D.toPs ds
end
section
variable {K : PySem.W.Frag} {C : Addr} {p0 : Option Addr} {H : Hp} {G : GS}
mutual
theorem plain_dp : ∀ {d : D} {n : Nat} {v : V} {fp : List Addr}, d.plain n = true → Rep K C p0 H G d v fp → Dp K H v d.toP
  | .non, _, _, _, _, r => by rw [non_of r, D.toP]; exact .non
  | .bl b, _, _, _, _, r => by rw [bl_of r, D.toP]; exact .bl _
  | .int b, _, _, _, _, r => by rw [int_of r, D.toP]; exact .int _
  | .str b, _, _, _, _, r => by rw [str_of r, D.toP]; exact .str _
  | .tup ds, n, _, _, h, r => by
    obtain ⟨p, vs, rfl, hp, rs⟩ := tup_of r
    rw [D.toP]
    cases n with
    | zero => unfold D.plain at h; cases h
    | succ n => exact .tup (.inl (.inl hp)) (plain_dps (n := n) (by unfold D.plain at h; exact h) rs)
  | .lst o ds, n, _, _, h, r => by
    obtain ⟨p, vs, f, rfl, hp, _, rs, _⟩ := lst_of r
    rw [D.toP]
    cases n with
    | zero => unfold D.plain at h; cases h
    | succ n => exact .lst (.inl (.inl hp)) (plain_dps (n := n) (by unfold D.plain at h; exact h) rs)
  | .rat _, _, _, _, h, _ => by unfold D.plain at h; cases h
  | .strm, _, _, _, h, _ => by unfold D.plain at h; cases h
  | .scr _, _, _, _, h, _ => by unfold D.plain at h; cases h
theorem plain_dps : ∀ {ds : List D} {n : Nat} {vs : List V} {fp : List Addr}, D.plains ds n = true → Reps K C p0 H G ds vs fp → DpAll K H vs (D.toPs ds)
  | [], _, _, _, _, r => by
    rw [(Reps.nil_iff.mp r).1, D.toPs]
    exact .nil
  | d :: ds, n, _, _, h, r => by
    obtain ⟨v, r', f, g, rfl, rfl, a, b⟩ := Reps.cons_iff.mp r
    unfold D.plains at h
    rw [Bool.and_eq_true] at h
    rw [D.toPs]
    exact .cons (plain_dp h.1 a) (plain_dps h.2 b)
end
end
mutual
theorem plain_lay : ∀ {d : D} {n : Nat}, d.plain n = true → d.toP.canLay0 = true ∧ d.toP.depth ≤ n
  | .non, _, _ => by rw [D.toP]; exact ⟨rfl, Nat.zero_le _⟩
  | .bl b, _, _ => by rw [D.toP]; exact ⟨rfl, Nat.zero_le _⟩
  | .int b, _, _ => by rw [D.toP]; exact ⟨rfl, Nat.zero_le _⟩
  | .str b, _, h => by
    rw [D.toP]
    refine ⟨?_, Nat.zero_le _⟩
    unfold D.plain at h
    unfold PyData.canLay0 PyData.strOk
    exact h
  | .tup ds, n, h => by
    rw [D.toP]
    cases n with
    | zero => unfold D.plain at h; cases h
    | succ n =>
      obtain ⟨a, b⟩ := plains_lay (ds := ds) (n := n) (by unfold D.plain at h; exact h)
      refine ⟨by unfold PyData.canLay0; exact a, ?_⟩
      unfold PyData.depth
      omega
  | .lst o ds, n, h => by
    rw [D.toP]
    cases n with
    | zero => unfold D.plain at h; cases h
    | succ n =>
      obtain ⟨a, b⟩ := plains_lay (ds := ds) (n := n) (by unfold D.plain at h; exact h)
      refine ⟨by unfold PyData.canLay0; exact a, ?_⟩
      unfold PyData.depth
      omega
  | .rat _, _, h => by unfold D.plain at h; cases h
  | .strm, _, h => by unfold D.plain at h; cases h
  | .scr _, _, h => by unfold D.plain at h; cases h
theorem plains_lay : ∀ {ds : List D} {n : Nat}, D.plains ds n = true → PyData.canLayAll0 (D.toPs ds) = true ∧ PyData.depthAll (D.toPs ds) ≤ n
  | [], n, _ => by rw [D.toPs]; exact ⟨rfl, Nat.zero_le _⟩
  | d :: ds, n, h => by
    unfold D.plains at h
    rw [Bool.and_eq_true] at h
    obtain ⟨a, b⟩ := plain_lay h.1
    obtain ⟨c, e⟩ := plains_lay h.2
    rw [D.toPs]
    refine ⟨by unfold PyData.canLayAll0; rw [a, c]; rfl, ?_⟩
    unfold PyData.depthAll
    omega
end
theorem eqvAll_len : ∀ {as bs : List PyData}, as.length ≠ bs.length → PyData.eqvAll as bs = false
  | [], [], h => absurd rfl h
  | [], _ :: _, _ => by rw [PyData.eqvAll]
  | _ :: _, [], _ => by rw [PyData.eqvAll]
  | a :: as, b :: bs, h => by
    rw [PyData.eqvAll, eqvAll_len (fun z => h (congrArg Nat.succ z))]
    simp
theorem toPs_len : ∀ (ds : List D), (D.toPs ds).length = ds.length
  | [] => by rw [D.toPs] <;> rfl
  | d :: ds => by rw [D.toPs, List.length_cons, List.length_cons, toPs_len ds]
mutual
theorem eqv_toP : ∀ (a b : D) {n m : Nat} {r : Bool}, a.plain n = true → b.plain m = true → D.eqv a b = some r → PyData.eqv a.toP b.toP = r
  | .tup as, b, n, m, r, ha, hb, h => by
    cases b with
    | tup bs =>
      cases n with
      | zero => unfold D.plain at ha; cases ha
      | succ n =>
        cases m with
        | zero => unfold D.plain at hb; cases hb
        | succ m =>
          rw [D.toP, D.toP, PyData.eqv]
          exact eqvs_toP as bs (n := n) (m := m) (by unfold D.plain at ha; exact ha) (by unfold D.plain at hb; exact hb) (by unfold D.eqv at h; exact h)
    | _ => first | (simp [D.plain] at hb; done) | (simp [D.eqv] at h; subst h; simp [D.toP, PyData.eqv])
  | .lst o as, b, n, m, r, ha, hb, h => by
    cases b with
    | lst o' bs =>
      cases n with
      | zero => unfold D.plain at ha; cases ha
      | succ n =>
        cases m with
        | zero => unfold D.plain at hb; cases hb
        | succ m =>
          rw [D.toP, D.toP, PyData.eqv]
          unfold D.eqv at h
          by_cases hl : as.length = bs.length
          · rw [if_pos hl] at h
            exact eqvs_toP as bs (n := n) (m := m) (by unfold D.plain at ha; exact ha) (by unfold D.plain at hb; exact hb) h
          · rw [if_neg hl] at h
            cases h
            exact eqvAll_len (by rw [toPs_len, toPs_len]; exact hl)
    | _ => first | (simp [D.plain] at hb; done) | (simp [D.eqv] at h; subst h; simp [D.toP, PyData.eqv])
  | .non, b, n, m, r, ha, hb, h => by
    cases b <;> first | (simp [D.plain] at hb; done) | (simp [D.eqv] at h; subst h; simp [D.toP, PyData.eqv])
  | .bl _, b, n, m, r, ha, hb, h => by
    cases b <;> first | (simp [D.plain] at hb; done) | (simp [D.eqv] at h; done) | (simp [D.eqv] at h; subst h; simp [D.toP, PyData.eqv])
  | .int _, b, n, m, r, ha, hb, h => by
    cases b <;> first | (simp [D.plain] at hb; done) | (simp [D.eqv] at h; done) | (simp [D.eqv] at h; subst h; simp [D.toP, PyData.eqv])
  | .str _, b, n, m, r, ha, hb, h => by
    cases b <;> first | (simp [D.plain] at hb; done) | (simp [D.eqv] at h; subst h; simp [D.toP, PyData.eqv])
  | .rat _, b, n, m, r, ha, hb, h => by unfold D.plain at ha; cases ha
  | .strm, b, n, m, r, ha, hb, h => by unfold D.plain at ha; cases ha
  | .scr _, b, n, m, r, ha, hb, h => by unfold D.plain at ha; cases ha
theorem eqvs_toP : ∀ (as bs : List D) {n m : Nat} {r : Bool}, D.plains as n = true → D.plains bs m = true → D.eqvs as bs = some r → PyData.eqvAll (D.toPs as) (D.toPs bs) = r
  | [], [], n, m, r, _, _, h => by
    unfold D.eqvs at h
    cases h
    rw [D.toPs, PyData.eqvAll]
  | [], _ :: _, n, m, r, _, _, h => by
    unfold D.eqvs at h
    cases h
    rw [D.toPs, D.toPs, PyData.eqvAll]
  | _ :: _, [], n, m, r, _, _, h => by
    unfold D.eqvs at h
    cases h
    rw [D.toPs, D.toPs, PyData.eqvAll]
  | a :: as, b :: bs, n, m, r, ha, hb, h => by
    unfold D.plains at ha hb
    rw [Bool.and_eq_true] at ha hb
    unfold D.eqvs at h
    rw [D.toPs, D.toPs, PyData.eqvAll]
    cases e : D.eqv a b with
    | none => rw [e] at h; cases h
    | some c =>
      rw [e] at h
      rw [eqv_toP a b ha.1 hb.1 e]
      cases c with
      | true => rw [Bool.true_and]; exact eqvs_toP as bs ha.2 hb.2 h
      | false => cases h; rfl
end
theorem anyEq_toP {x : D} {n : Nat} (hx : x.plain n = true) : ∀ (ds : List D) {m : Nat} {r : Bool}, D.plains ds m = true → anyEq x ds = some r → (D.toPs ds).any (fun z => PyData.eqv z x.toP) = r
  | [], m, r, _, h => by
    unfold anyEq at h
    cases h
    rw [D.toPs]
    rfl
  | d :: ds, m, r, hd, h => by
    unfold D.plains at hd
    rw [Bool.and_eq_true] at hd
    unfold anyEq at h
    rw [D.toPs, List.any_cons]
    cases e : D.eqv d x with
    | none => rw [e] at h; cases h
    | some c =>
      rw [e] at h
      rw [eqv_toP d x hd.1 hx e]
      cases c with
      | true => cases h; rfl
      | false => rw [Bool.false_or]; exact anyEq_toP hx ds hd.2 h
theorem plain_shaped {d : D} (h : d.plain 40 = true) : SeqAt.shaped d.toP = true := by
  obtain ⟨a, b⟩ := plain_lay h
  unfold SeqAt.shaped
  rw [a, Bool.true_and]
  exact decide_eq_true (by omega)
theorem can_cases {a b : D} {r : Bool} (hc : canCmp a b = true) (h : D.eqv a b = some r) : (∃ p q, a = .rat p ∧ b = .rat q ∧ r = (p == q)) ∨ (a.plain 40 = true ∧ b.plain 40 = true ∧ PyData.eqv a.toP b.toP = r) := by
  unfold canCmp at hc
  rcases Bool.or_eq_true_iff.mp hc with z | z
  · rw [Bool.and_eq_true] at z
    obtain ⟨z1, z2⟩ := z
    cases a <;> first | (cases z1; done) | skip
    cases b <;> first | (cases z2; done) | skip
    unfold D.eqv at h
    cases h
    exact .inl ⟨_, _, rfl, rfl, rfl⟩
  · rw [Bool.and_eq_true] at z
    exact .inr ⟨z.1, z.2, eqv_toP a b z.1 z.2 h⟩
theorem same_cases {a b : D} {r : Bool} (z : sameD a b = true) (h : D.eqv a b = some r) : r = true ∧ ∃ o as o' bs, a = .lst o as ∧ b = .lst o' bs ∧ D.deeps as 5 = true ∧ D.deeps bs 5 = true ∧ D.eqvs as bs = some true := by
  unfold sameD at z
  rw [h] at z
  simp only [Bool.and_eq_true] at z
  obtain ⟨⟨z1, z2⟩, ⟨z3, z4⟩, z5⟩ := z
  cases a <;> first | (cases z1; done) | skip
  cases b <;> first | (cases z2; done) | skip
  cases r <;> first | (cases z5; done) | skip
  unfold D.eqv at h
  split at h
  · exact ⟨rfl, _, _, _, _, rfl, rfl, by unfold D.deep at z3; exact z3, by unfold D.deep at z4; exact z4, h⟩
  · cases h
/-! lists with fractions that are equal, all through -/
def DT (K : PySem.W.Frag) (C : Addr) (n : Nat) : Eqv := fun x y H => ∃ p0 G a b fa fb, PL p0 H ∧ Rep K C p0 H G a x fa ∧ Rep K C p0 H G b y fb ∧ a.deep n = true ∧ b.deep n = true ∧ D.eqv a b = some true
theorem mon_DT {K : PySem.W.Frag} {C : Addr} {n : Nat} : Mon (DT K C n) := fun x y H H' e d => by
  obtain ⟨p0, G, a, b, fa, fb, pl, ra, rb, h⟩ := d
  have g : Grow p0 H G H' G := ⟨fun p o _ h => e p o h, fun _ h => h, fun _ _ _ h _ => h, fun _ _ xs _ h => ⟨xs, e _ _ h⟩⟩
  exact ⟨p0, G, a, b, fa, fb, fun p z => let ⟨xs, q⟩ := pl p z; ⟨xs, e _ _ q⟩, ra.grow pl g, rb.grow pl g, h⟩
theorem prs_DT {K : PySem.W.Frag} {C : Addr} {n : Nat} {p0 : Option Addr} {G : GS} {H : Hp} (pl : PL p0 H) : ∀ (as bs : List D) {xs ys : List V} {fa fb : List Addr}, Reps K C p0 H G as xs fa → Reps K C p0 H G bs ys fb → D.deeps as n = true → D.deeps bs n = true → D.eqvs as bs = some true → Prs (DT K C n) xs ys H
  | [], [], xs, ys, fa, fb, ra, rb, _, _, _ => by
    obtain ⟨rfl, _⟩ := Reps.nil_iff.mp ra
    obtain ⟨rfl, _⟩ := Reps.nil_iff.mp rb
    exact Prs.nil
  | [], _ :: _, _, _, _, _, _, _, _, _, h => by unfold D.eqvs at h; cases h
  | _ :: _, [], _, _, _, _, _, _, _, _, h => by unfold D.eqvs at h; cases h
  | a :: as, b :: bs, xs, ys, fa, fb, ra, rb, ha, hb, h => by
    obtain ⟨v, r, f, g, rfl, _, a1, a2⟩ := Reps.cons_iff.mp ra
    obtain ⟨u, r', f', g', rfl, _, b1, b2⟩ := Reps.cons_iff.mp rb
    unfold D.deeps at ha hb
    rw [Bool.and_eq_true] at ha hb
    unfold D.eqvs at h
    cases e : D.eqv a b with
    | none => rw [e] at h; cases h
    | some c =>
      rw [e] at h
      cases c with
      | false => cases h
      | true => exact Prs.cons ⟨p0, G, a, b, _, _, pl, a1, b1, ha.1, hb.1, e⟩ (prs_DT pl as bs a2 b2 ha.2 hb.2 h)
section
variable {X : Cx} {C : Addr}
/-- both the same fraction -/
def RQ (C : Addr) (a b : Addr) (H : Hp) : Prop := ∃ q, RatAt C H a q ∧ RatAt C H b q
theorem eq_rat (M : MethOk X.prog X.w X.K X.mg X.base C "__eq__" 1 (spRel C false)) : EqG X 1 (DIns C (RQ C)) := by
  obtain ⟨f, fd, ps, F, hs, hf, bd⟩ := M.ex
  refine eqG_ins (E := E0) (F.imp (sp' := spEq (RQ C)) fun vs H Q E h => ?_) hs hf bd pass0
  obtain ⟨a, b, rfl, ⟨q, r1, r2⟩, hq⟩ := h
  refine ⟨a, b, q, q, rfl, r1, r2, ?_⟩
  rw [beq_self_eq_true]
  exact hq H Ext.rfl'
theorem eqG_DT (M : MethOk X.prog X.w X.K X.mg X.base C "__eq__" 1 (spRel C false)) : ∀ n, EqG X (n + 1) (DT X.K C n) := by
  have flat : ∀ {n : Nat}, EqG X (n + 1) DFlat := eqG_flat.mono (Nat.zero_le _)
  have rat : ∀ {n : Nat}, EqG X (n + 1) (DIns C (RQ C)) := (eq_rat M).mono (Nat.succ_le_succ (Nat.zero_le _))
  have base : ∀ (n : Nat) (Z : Eqv), (∀ x y H p0 G as bs fa fb, PL p0 H → Rep X.K C p0 H G (.tup as) x fa → Rep X.K C p0 H G (.tup bs) y fb → (D.tup as).deep n = true → (D.tup bs).deep n = true → D.eqvs as bs = some true → Z x y H) →
      (∀ x y H p0 G o o' as bs fa fb, PL p0 H → Rep X.K C p0 H G (.lst o as) x fa → Rep X.K C p0 H G (.lst o' bs) y fb → (D.lst o as).deep n = true → (D.lst o' bs).deep n = true → D.eqvs as bs = some true → Z x y H) → ∀ x y H, DT X.K C n x y H → (DFlat x y H ∨ DIns C (RQ C) x y H) ∨ Z x y H := by
    intro n Z zt zl x y H d
    obtain ⟨p0, G, a, b, fa, fb, pl, ra, rb, ha, hb, e⟩ := d
    cases a with
    | non =>
      cases b <;> first | (simp [D.eqv] at e; done) | skip
      rw [non_of ra, non_of rb]
      exact .inl (.inl ⟨rfl, rfl, rfl⟩)
    | bl c =>
      cases b <;> first | (simp [D.eqv] at e; done) | skip
      rw [bl_of ra, bl_of rb]
      simp [D.eqv] at e
      subst e
      exact .inl (.inl ⟨rfl, rfl, by simp [eqV]⟩)
    | int c =>
      cases b <;> first | (simp [D.eqv] at e; done) | skip
      rw [int_of ra, int_of rb]
      simp [D.eqv] at e
      subst e
      exact .inl (.inl ⟨rfl, rfl, by simp [eqV]⟩)
    | str c =>
      cases b <;> first | (simp [D.eqv] at e; done) | skip
      rw [str_of ra, str_of rb]
      simp [D.eqv] at e
      subst e
      exact .inl (.inl ⟨rfl, rfl, by simp [eqV]⟩)
    | rat p =>
      cases b <;> first | (simp [D.eqv] at e; done) | skip
      obtain ⟨p1, rfl, r1⟩ := rat_of ra
      obtain ⟨p2, rfl, r2⟩ := rat_of rb
      simp [D.eqv] at e
      subst e
      obtain ⟨dx, fs, h1, h2⟩ := r1
      obtain ⟨dy, gs, h3, h4⟩ := r2
      exact .inl (.inr ⟨p1, p2, dx, dy, fs, gs, rfl, rfl, h1, h3, p, ⟨dx, fs, h1, h2⟩, ⟨dy, gs, h3, h4⟩⟩)
    | tup as =>
      cases b <;> first | (simp [D.eqv] at e; done) | skip
      unfold D.eqv at e
      exact .inr (zt x y H p0 G _ _ _ _ pl ra rb ha hb e)
    | lst o as =>
      cases b <;> first | (simp [D.eqv] at e; done) | skip
      unfold D.eqv at e
      split at e
      · exact .inr (zl x y H p0 G _ _ _ _ _ _ pl ra rb ha hb e)
      · cases e
    | strm => unfold D.deep at ha; cases ha
    | scr ns => unfold D.deep at ha; cases ha
  intro n
  induction n with
  | zero =>
    refine ((flat.or rat).or (D' := fun _ _ _ => False) (fun A pins s σ H x y u v sb I rx ry d => d.elim)).imp (base 0 _ ?_ ?_)
    · intro x y H p0 G as bs fa fb _ _ _ h
      unfold D.deep at h; cases h
    · intro x y H p0 G o o' as bs fa fb _ _ _ h
      unfold D.deep at h; cases h
  | succ n ih =>
    refine ((flat.or rat).or ((eqG_tup mon_DT ih).or (eqG_list mon_DT ih))).imp (base (n + 1) _ ?_ ?_)
    · intro x y H p0 G as bs fa fb pl ra rb ha hb e
      obtain ⟨a, vs, rfl, e1, r1⟩ := tup_of ra
      obtain ⟨b, us, rfl, e2, r2⟩ := tup_of rb
      unfold D.deep at ha hb
      exact .inl ⟨a, b, vs, us, rfl, rfl, SqT.of e1, SqT.of e2, prs_DT pl _ _ r1 r2 ha hb e⟩
    · intro x y H p0 G o o' as bs fa fb pl ra rb ha hb e
      obtain ⟨a, vs, f1, rfl, e1, _, r1, _⟩ := lst_of ra
      obtain ⟨b, us, f2, rfl, e2, _, r2, _⟩ := lst_of rb
      unfold D.deep at ha hb
      exact .inr ⟨a, b, vs, us, rfl, rfl, e1, e2, prs_DT pl _ _ r1 r2 ha hb e⟩
theorem op_eqT (hu : X.A.units + 64 < cLine) (hr : Room 8 X.A) (M : MethOk X.prog X.w X.K X.mg X.base C "__eq__" 1 (spRel C false)) (h : OpR X (compareOp .Eq) (rRel C false)) : OpR X (compareOp .Eq) (rEqv X.K C false) := by
  intro pins s σ H x y v u Q I rx ry hq
  obtain ⟨p0, G, a, b, fa, fb, r, pl, ra, rb, hc, e, q⟩ := hq
  unfold canC at hc
  rcases Bool.or_eq_true_iff.mp hc with hc | hc
  · rcases can_cases hc e with ⟨p, q', rfl, rfl, rfl⟩ | ⟨h1, h2, rfl⟩
    · obtain ⟨p1, rfl, r1⟩ := rat_of ra
      obtain ⟨p2, rfl, r2⟩ := rat_of rb
      exact h pins s σ H _ _ v u Q I rx ry ⟨p1, p2, _, _, rfl, rfl, r1, r2, q H fun _ _ z => z⟩
    · exact op_eqD hu pins s σ H x y v u Q I rx ry ⟨_, _, plain_dp h1 ra, plain_dp h2 rb, plain_shaped h1, plain_shaped h2, q H fun _ _ z => z⟩
  · obtain ⟨rfl, o, as, o', bs, rfl, rfl, h1, h2, h3⟩ := same_cases (by simpa using hc) e
    obtain ⟨pa, vs, f1, rfl, e1, _, r1, _⟩ := lst_of ra
    obtain ⟨pb, us, f2, rfl, e2, _, r2, _⟩ := lst_of rb
    exact op_eqG (n := 7) (rcG_list mon_DT (eqG_DT M 5)) (hr.mono (by decide)) pins s σ H _ _ v u Q I rx ry ⟨⟨pa, pb, vs, us, rfl, rfl, e1, e2, prs_DT pl _ _ r1 r2 h1 h2 h3⟩, q⟩
theorem op_neT (hu : X.A.units + 64 < cLine) (h : OpR X (compareOp .NotEq) (rRel C true)) : OpR X (compareOp .NotEq) (rEqv X.K C true) := by
  intro pins s σ H x y v u Q I rx ry hq
  obtain ⟨p0, G, a, b, fa, fb, r, pl, ra, rb, hc, e, q⟩ := hq
  have hc : canCmp a b = true := by simpa [canC] using hc
  rcases can_cases hc e with ⟨p, q', rfl, rfl, rfl⟩ | ⟨h1, h2, rfl⟩
  · obtain ⟨p1, rfl, r1⟩ := rat_of ra
    obtain ⟨p2, rfl, r2⟩ := rat_of rb
    exact h pins s σ H _ _ v u Q I rx ry ⟨p1, p2, _, _, rfl, rfl, r1, r2, q H fun _ _ z => z⟩
  · exact op_neD hu pins s σ H x y v u Q I rx ry ⟨_, _, plain_dp h1 ra, plain_dp h2 rb, plain_shaped h1, plain_shaped h2, q H fun _ _ z => z⟩
theorem op_inT (hu : X.A.units + 65 < cLine) (neg : Bool) : OpR X (compareOp (if neg then .NotIn else .In)) (rInv X.K C neg) := by
  intro pins s σ H x y v u Q I rx ry hq
  obtain ⟨p0, G, a, ds, fa, fb, r, pl, ra, rb, hc, e, q⟩ := hq
  unfold canIn at hc
  rw [Bool.and_eq_true] at hc
  have ea := anyEq_toP hc.1 ds hc.2 e
  have q := q H fun _ _ z => z
  subst ea
  obtain ⟨as, r1⟩ := Dp.reads I _ x v (plain_dp hc.1 ra) rx
  have sa := plain_shaped hc.1
  have lay := (plains_lay hc.2).1
  rcases rb with rb | ⟨o, rb⟩
  · obtain ⟨bs, r2⟩ := Dp.reads I _ y u (plain_dp (n := 40) (by unfold D.plain; exact hc.2) rb) ry
    rw [D.toP] at r2
    cases neg with
    | false => exact SeqAt.in_tuple_reads r2 r1 lay (SeqAt.canLay_of_shaped sa) (room_in_shaped sa hu) ⟨.bl _, H, I, rfl, q⟩
    | true => exact SeqAt.notIn_tuple_reads r2 r1 lay (SeqAt.canLay_of_shaped sa) (room_in_shaped sa hu) ⟨.bl _, H, I, rfl, q⟩
  · obtain ⟨bs, r2⟩ := Dp.reads I _ y u (plain_dp (n := 40) (by unfold D.plain; exact hc.2) rb) ry
    rw [D.toP] at r2
    cases neg with
    | false => exact SeqAt.in_list_reads r2 r1 lay (SeqAt.canLay_of_shaped sa) (room_in_shaped sa hu) ⟨.bl _, H, I, rfl, q⟩
    | true => exact SeqAt.notIn_list_reads r2 r1 lay (SeqAt.canLay_of_shaped sa) (room_in_shaped sa hu) ⟨.bl _, H, I, rfl, q⟩
end
end Mp

namespace Mp
open PySem PySem.Spec
open PyProof.Rows L2
section
variable {P : Program} {w : World} {K : PySem.W.Frag} {mg : Str → Option Value} {base : Heap} {C : Addr} {f : Addr} {fd : FuncData} {params : Arguments} {scope : Scope} {X : Cx}
variable {q1 q2 q3 q4 q5 q6 q7 q8 q9 q10 q11 q12 q13 q14 q15 q16 q17 q18 q19 q20 q21 q22 q23 q24 q25 q26 q27 q28 q29 q30 q31 q32 q33 q34 q35 q36 : Pos} {n1 n2 n3 n4 : Nat}
/-- a body's place: the names, the stores -/
structure At (X : Cx) (N : List Str) : Prop where
  nm : X.N = N
  nd : X.N.Nodup
  bd : Bd X
  calm : X.calm = true
  xe : X.xe = fun _ _ => False
theorem At.v {N : List Str} (a : At X N) {i : Nat} {x : Str} {p : Pos} (h : N[i]? = some x) (hv : visC X.env.scope x = true) (hp : plainN x = true := by decide +kernel) : PE X (.Name x p) (tVar i) := pe_var (by rw [a.nm]; exact h) (vis_by hv) (plain_by hp).1 (plain_by hp).2
theorem At.fld {N : List Str} (a : At X N) {i : Nat} {x n : Str} {p q : Pos} (h : N[i]? = some x) (hv : visC X.env.scope x = true) (hp : plainN x = true := by decide +kernel) : PE X (.Attribute (.Name x p) n q) (tFld X.K (tVar i) n) := pe_fld (a.v h hv hp) rfl
def t_gcd : TS := tSeq (tWhile (tTest (tOp rNe (tVar 1) (tC (.int 0)))) (tPar 0 1 (tCons (tVar 1) (tCons (tOp (rI (fun _ j => j ≠ 0) fun i j => .int (i.fmod j)) (tVar 0) (tVar 1)) tNil)))) (tRet (tCB (fun xs H Q => ∃ i, xs = [.int i] ∧ Q (.int (if i < 0 then -i else i)) H) (tCons (tVar 0) tNil)))
theorem gcd_walk (a : At X ["a", "b"]) (va : visC X.env.scope "a" = true) (vb : visC X.env.scope "b" = true) (hl : parC X.env.scope "a" "b" q4 q5 (.Name "b" q7) (.BinOp (.Name "a" q8) .Mod (.Name "b" q9) q10) = true) (hg : Gl X "abs") (hm : X.mg "abs" = none) :
    PSs X [.While (.Compare (.Name "b" q1) [.NotEq] [.Constant (.int 0) n1 q2] q3) [.Assign [.Tuple [.Name "a" q4, .Name "b" q5] n2 q6] (.Tuple [.Name "b" q7, .BinOp (.Name "a" q8) .Mod (.Name "b" q9) q10] n3 q11) q12] [] q13, .Return (some (.Call (.Name "abs" q14) [.Name "a" q15] [] q16)) q17] t_gcd := by
  obtain ⟨la, lb, hw⟩ := par_by (pt := q6) (pt2 := q11) (kt := n2) (k2 := n3) a.bd hl
  refine pss_cons (ps_while (by rw [a.xe]; exact PassesOwn.never) (pt_cmpR op_ne (a.v rfl vb) pe_int (nomark _)) (pss_one ?_)) (pss_one (ps_ret (pe_callB call_abs hg hm (by decide +kernel) (pa_cons (a.v rfl va) pa_nil))))
  exact ps_par a.calm a.nd (by rw [a.nm]; rfl) (by rw [a.nm]; rfl) (by decide) la lb (pa_cons (a.v rfl vb) (pa_cons (pe_op op_modN (a.v rfl va) (a.v rfl vb)) pa_nil)) hw
theorem gcd_pure {H : Hp} {D : Ends} {a b : Int} (h : D.rt (.int (Int.gcd a b : Int)) H) : t_gcd D [some (.int a), some (.int b)] H := by
  refine ⟨fun m σ H' => H' = H ∧ ∃ x y : Int, σ = [some (.int x), some (.int y)] ∧ Int.gcd x y = Int.gcd a b ∧ m = y.natAbs, ⟨b.natAbs, rfl, a, b, rfl, rfl, rfl⟩, ?_⟩
  rintro m σ H' ⟨rfl, x, y, rfl, hg, rfl⟩
  refine ⟨_, rfl, rfl, _, rfl, ?_⟩
  by_cases hy : y = 0
  · subst hy
    have e : decide (V.int 0 = V.int 0) = true := decide_eq_true rfl
    show (if (!decide (V.int 0 = V.int 0)) = true then _ else _)
    rw [e]
    refine ⟨_, rfl, x, rfl, ?_⟩
    have e2 : (if x < 0 then -x else x) = (Int.gcd a b : Int) := by
      rw [← hg, Int.gcd_zero_right]
      split <;> omega
    rw [e2]
    exact h
  · have e : decide (V.int y = V.int 0) = false := decide_eq_false fun z => hy (by cases z; rfl)
    show (if (!decide (V.int y = V.int 0)) = true then _ else _)
    rw [e]
    refine ⟨fun σ' H2 => H2 = H' ∧ σ' = [some (.int y), some (.int (x.fmod y))], fun σ' H2 z => ⟨(x.fmod y).natAbs, fmod_lt hy, z.1, y, x.fmod y, z.2, by rw [gcd_step, hg], rfl⟩, ?_⟩
    exact ⟨_, rfl, _, rfl, _, rfl, x, y, rfl, rfl, hy, _, _, rfl, rfl, rfl⟩
def spGcd : Sp := fun vs H Q _ => ∃ a b, vs = [.int a, .int b] ∧ Q (.int (Int.gcd a b : Int)) H
/-- the context at a def's body -/
theorem at_of {N ps : List Str} {qual : Str} {cdv : Value} {A : Around} {outer : List Env} {s : Shared} {H : Hp} {E : XK} (S : FnScope N ps scope) : At (cxOf CX0 P w K mg base N qual scope f cdv A outer s H E).nox N := ⟨rfl, S.nd, ⟨S.kind, fun _ => rfl⟩, rfl, rfl⟩
theorem ok_gcd (F : FunD K "greatest_divisor" "greatest_divisor" params [.While (.Compare (.Name "b" q1) [.NotEq] [.Constant (.int 0) n1 q2] q3) [.Assign [.Tuple [.Name "a" q4, .Name "b" q5] n2 q6] (.Tuple [.Name "b" q7, .BinOp (.Name "a" q8) .Mod (.Name "b" q9) q10] n3 q11) q12] [] q13, .Return (some (.Call (.Name "abs" q14) [.Name "a" q15] [] q16)) q17] scope [] [] f fd)
    (S : FnScope ["a", "b"] ["a", "b"] scope) (va : visC scope "a" = true) (vb : visC scope "b" = true) (hl : parC scope "a" "b" q4 q5 (.Name "b" q7) (.BinOp (.Name "a" q8) .Mod (.Name "b" q9) q10) = true) (hg : glC scope "abs" = true) (hm : mg "abs" = none) : FnOk P w K mg base CX0 1 f fd ["a", "b"] spGcd := by
  refine F.ok S (fun vs H Q E h => by obtain ⟨a, b, rfl, _⟩ := h; rfl) fun cdv A outer s H vs Q E hr h => ⟨_, PSs.nox (gcd_walk (at_of S) va vb hl (gl_by hg) hm), ?_⟩
  obtain ⟨a, b, rfl, h⟩ := h
  exact gcd_pure h
/-! ### Ratio(n, d) -/
def spInit (C : Addr) : Sp := fun vs H Q _ => ∃ x n d dx, vs = [.ref x, .int n, .int d] ∧ d ≠ 0 ∧ d.natAbs.log2 < 9000 ∧ H x = some (.ins C dx []) ∧ ∀ fs, Flds fs (Rat.divInt n d) → Q .non (upd H x (.ins C dx fs))
def t_init (K : PySem.W.Frag) : TS := tSeq (tIfS (tTest (tOp rEq (tVar 2) (tC (.int 0)))) tNever tNext) (tSeq (tAsg (tCall spGcd [] E0 (tCons (tVar 1) (tCons (tVar 2) tNil))) (gName 3)) (tSeq (tIfS (tTest (tOp (rI0 fun i j => .bl (decide (i < j))) (tVar 2) (tC (.int 0)))) (tAsg (tUn (rU fun i => .int (-i)) (tVar 3)) (gName 3)) tNext)
  (tSeq (sFld K (tVar 0) (tOp (rI (fun _ j => j ≠ 0 ∧ j.natAbs.log2 < 9000) fun i j => .int (i.fdiv j)) (tVar 1) (tVar 3)) "top") (sFld K (tVar 0) (tOp (rI (fun _ j => j ≠ 0 ∧ j.natAbs.log2 < 9000) fun i j => .int (i.fdiv j)) (tVar 2) (tVar 3)) "bottom"))))
theorem init_walk {st : Stmt} {p1 p2 p3 : Pos} {fg : Addr} {fdg : FuncData} (a : At X ["self", "n", "d", "divisor"]) (hv : ∀ x ∈ (["self", "n", "d", "divisor"] : List Str), visC X.env.scope x = true) (hl : locC X.env.scope "divisor" = true) (hg : glC X.env.scope "greatest_divisor" = true)
    (FG : FnOk X.prog X.w X.K X.mg X.base CX0 1 fg fdg ["a", "b"] spGcd) (hr : Room 1 X.A) (hm : X.mg "greatest_divisor" = some (.ref fg)) (hk : PySem.W.keepIn X.K (.ref fg) = true) (hb : Binds X.K fdg ["a", "b"] []) :
    PSs X [.If (.Compare (.Name "d" q1) [.Eq] [.Constant (.int 0) n1 q2] q3) [st] [] q4, .Assign [.Name "divisor" q5] (.Call (.Name "greatest_divisor" q6) [.Name "n" q7, .Name "d" q8] [] q9) q10,
    .If (.Compare (.Name "d" q11) [.Lt] [.Constant (.int 0) n2 q12] q13) [.Assign [.Name "divisor" q14] (.UnaryOp .USub (.Name "divisor" q15) q16) q17] [] q18,
    .Assign [.Attribute (.Name "self" q19) "top" q20] (.BinOp (.Name "n" q21) .FloorDiv (.Name "divisor" q22) q23) q24, .Assign [.Attribute (.Name "self" q25) "bottom" q26] (.BinOp (.Name "d" q27) .FloorDiv (.Name "divisor" p1) p2) p3] (t_init X.K) := by
  have vs := hv "self" (by decide +kernel)
  have vn := hv "n" (by decide +kernel)
  have vd := hv "d" (by decide +kernel)
  have vv := hv "divisor" (by decide +kernel)
  have pg : ∀ {p : Pos}, PG X (.Name "divisor" p) (gName 3) := pg_name a.nd (by rw [a.nm]; rfl) (loc_by hl) (.inl (a.bd.fn _))
  refine pss_cons (ps_if (pt_cmpR op_eq (a.v rfl vd) pe_int (nomark _)) (pss_one ps_never) pss_nil) (pss_cons (ps_asg (pe_call FG hr (gl_by hg) hm hk hb .nil pass0 (pa_cons (a.v rfl vn) (pa_cons (a.v rfl vd) pa_nil))) pg) (pss_cons (ps_if (pt_cmpR op_lt (a.v rfl vd) pe_int (nomark _)) (pss_one (ps_asg (pe_un un_neg (a.v rfl vv)) pg)) pss_nil) (pss_cons (ps_fld (a.v rfl vs) (pe_op op_fdivM (a.v rfl vn) (a.v rfl vv)) rfl) (pss_one (ps_fld (a.v rfl vs) (pe_op op_fdivM (a.v rfl vd) (a.v rfl vv)) rfl)))))
theorem init_pure {H : Hp} {D : Ends} {x dx : Addr} {n d : Int} (c : Cls K C) (nt : NoAttr K C "top") (nb : NoAttr K C "bottom") (hd : d ≠ 0) (hl : d.natAbs.log2 < 9000) (hx : H x = some (.ins C dx [])) (h : ∀ fs σ, Flds fs (Rat.divInt n d) → D.nx σ (upd H x (.ins C dx fs))) : t_init K D [some (.ref x), some (.int n), some (.int d), none] H := by
  have e0 : decide (V.int d = V.int 0) = false := decide_eq_false fun z => hd (by cases z; rfl)
  have fin : ∀ σ : L2.St, σ = [some (.ref x), some (.int n), some (.int d), some (.int (dvr n d))] → tSeq (sFld K (tVar 0) (tOp (rI (fun _ j => j ≠ 0 ∧ j.natAbs.log2 < 9000) fun i j => .int (i.fdiv j)) (tVar 1) (tVar 3)) "top") (sFld K (tVar 0) (tOp (rI (fun _ j => j ≠ 0 ∧ j.natAbs.log2 < 9000) fun i j => .int (i.fdiv j)) (tVar 2) (tVar 3)) "bottom") D σ H := by
    rintro σ rfl
    have l0 := dvr_log (n := n) hd hl
    have ne := dvr_ne (n := n) hd
    refine ⟨_, rfl, _, rfl, n, dvr n d, rfl, rfl, ⟨ne, l0⟩, _, rfl, x, C, dx, [], rfl, hx, c, nt, by decide, ?_⟩
    refine ⟨_, rfl, _, rfl, d, dvr n d, rfl, rfl, ⟨ne, l0⟩, _, rfl, x, C, dx, _, rfl, upd_same, c, nb, ?_, ?_⟩
    · have := length_putF "top" (V.int (n.fdiv (dvr n d))) []
      exact Nat.lt_of_le_of_lt this (by decide)
    · rw [upd_upd]
      refine h _ _ ⟨?_, ?_⟩
      · rw [lookup_putF, if_neg (by decide), lookup_putF, if_pos rfl]; exact congrArg (fun z => some (V.int z)) (dvr_num hd)
      · rw [lookup_putF, if_pos rfl]; exact congrArg (fun z => some (V.int z)) (dvr_den hd)
  refine ⟨_, rfl, ⟨rfl, _, rfl, ?_⟩⟩
  show (if decide (V.int d = V.int 0) = true then _ else _)
  rw [e0]
  refine ⟨_, rfl, _, rfl, n, d, rfl, ?_⟩
  refine ⟨_, rfl, d, 0, rfl, rfl, _, rfl, ?_⟩
  by_cases hd0 : d < 0
  · show (if decide (d < 0) = true then _ else _)
    rw [if_pos (decide_eq_true hd0)]
    refine ⟨_, rfl, _, rfl, ?_⟩
    refine fin _ ?_
    unfold dvr
    rw [if_pos hd0]
    rfl
  · show (if decide (d < 0) = true then _ else _)
    rw [if_neg (by simpa using hd0)]
    refine fin _ ?_
    unfold dvr
    rw [if_neg hd0]
    rfl
theorem ok_init {st : Stmt} {p1 p2 p3 : Pos} {fg : Addr} {fdg : FuncData} {dvs : List V} (F : FunD K "__init__" "Ratio.__init__" params [.If (.Compare (.Name "d" q1) [.Eq] [.Constant (.int 0) n1 q2] q3) [st] [] q4, .Assign [.Name "divisor" q5] (.Call (.Name "greatest_divisor" q6) [.Name "n" q7, .Name "d" q8] [] q9) q10,
    .If (.Compare (.Name "d" q11) [.Lt] [.Constant (.int 0) n2 q12] q13) [.Assign [.Name "divisor" q14] (.UnaryOp .USub (.Name "divisor" q15) q16) q17] [] q18,
    .Assign [.Attribute (.Name "self" q19) "top" q20] (.BinOp (.Name "n" q21) .FloorDiv (.Name "divisor" q22) q23) q24, .Assign [.Attribute (.Name "self" q25) "bottom" q26] (.BinOp (.Name "d" q27) .FloorDiv (.Name "divisor" p1) p2) p3] scope dvs [] f fd)
    (S : FnScope ["self", "n", "d", "divisor"] ["self", "n", "d"] scope) (hv : ∀ x ∈ (["self", "n", "d", "divisor"] : List Str), visC scope x = true) (hl : locC scope "divisor" = true) (hg : glC scope "greatest_divisor" = true)
    (FG : FnOk P w K mg base CX0 1 fg fdg ["a", "b"] spGcd) (hm : mg "greatest_divisor" = some (.ref fg)) (hk : PySem.W.keepIn K (.ref fg) = true) (hb : Binds K fdg ["a", "b"] []) (c : Cls K C) (nt : NoAttr K C "top") (nb : NoAttr K C "bottom") : FnOk P w K mg base CX0 2 f fd ["self", "n", "d"] (spInit C) := by
  refine F.ok S (fun vs H Q E h => by obtain ⟨x, n, d, dx, rfl, _⟩ := h; rfl) fun cdv A outer s H vs Q E hr h => ⟨_, PSs.nox (init_walk (at_of S) hv hl hg FG hr hm hk hb), ?_⟩
  obtain ⟨x, n, d, dx, rfl, hd, hlog, hx, hq⟩ := h
  exact init_pure c nt nb hd hlog hx fun fs σ q => hq fs q
/-- what making a Ratio needs -/
structure RMk (P : Program) (w : World) (K : PySem.W.Frag) (mg : Str → Option Value) (base : Heap) (C : Addr) : Prop where
  ex : ∃ (fi : Addr) (fd : FuncData) (ds : List Value), Mk K C fi ∧ FnOk P w K mg base CX0 2 fi fd ["self", "n", "d"] (spInit C) ∧ Binds K fd ["self", "n", "d"] [] ∧ Binds K fd ["self", "n", "d"] ds ∧ Vals [V.int 1] ds
  gR : mg "Ratio" = some (.ref C)
theorem ex_made {H : Hp} {x dx : Addr} {o o' : HO} (hx : H x = none) (hdx : H dx = none) : Ex H (upd (upd H dx o) x o') := fun p u e => by
  rw [upd_ne (ne_of_none e hx), upd_ne (ne_of_none e hdx)]
  exact e
theorem mkR_of (M : RMk X.prog X.w X.K X.mg X.base C) (hr : Room 3 X.A) {e : Expr} {es : List Expr} {t : TA} {p pos : Pos} (ha : PA X (e :: es) t) (hg : Gl X "Ratio") (he : starEach (e :: es) X.env = (false, eval e X.env) :: starEach es X.env) (hpl : (backTo pos (starEach es X.env)).any (·.1) = false) :
    PE X (.Call (.Name "Ratio" p) (e :: es) [] pos) (fun σ H Q => t σ H fun vs H1 => rMk C vs H1 Q) := by
  obtain ⟨fi, fd, ds, mk, F, b0, b1, hd⟩ := M.ex
  refine ⟨fun pins s σ H Q I h => ?_⟩
  refine wpAny_Call_Name_kw (ld_glob I hg M.gR ?_ (by decide +kernel))
  refine PySem.W.callWith_K (h₀ := X.base) I.ok.mod.kin mk.kp (thn (ha.run pos pins s σ H _ I h) fun us s1 ⟨vs, H1, I1, r, q⟩ => ⟨I1.kIn, ?_⟩) he hpl
  obtain ⟨_, d, ⟨_, rfl, q⟩ | ⟨e', rfl, hd0, hl, q⟩⟩ := q
  · refine run_make (dvs := [V.int 1]) (E := E0) mk F hr b1 hd pass0 I1 r fun x dx hx hdx ne => ⟨x, d, 1, dx, rfl, by decide, by decide, upd_same, fun fs hf => ⟨rfl, q x _ (fun a u z => ?_) ⟨dx, fs, upd_same, ?_⟩⟩⟩
    · rw [upd_upd]
      exact ex_made hx hdx a u z
    · have e1 : Rat.divInt d 1 = (d : Rat) := by have := Rat.num_divInt_den (d : Rat); rwa [Rat.num_intCast, Rat.den_intCast] at this
      rw [e1] at hf
      exact hf
  · refine run_make (dvs := []) (ds := []) (E := E0) mk F hr b0 .nil pass0 I1 r fun x dx hx hdx ne => ⟨x, d, e', dx, rfl, hd0, hl, upd_same, fun fs hf => ⟨rfl, q x _ (fun a u z => ?_) ⟨dx, fs, upd_same, hf⟩⟩⟩
    rw [upd_upd]
    exact ex_made hx hdx a u z
end
end Mp

namespace Mp
open PySem PySem.Spec
open PyProof.Rows L2
section
variable {P : Program} {w : World} {K : PySem.W.Frag} {mg : Str → Option Value} {base : Heap} {C : Addr} {f : Addr} {fd : FuncData} {params : Arguments} {scope : Scope} {X : Cx}
variable {q1 q2 q3 q4 q5 q6 q7 q8 q9 q10 q11 q12 q13 q14 q15 q16 q17 q18 q19 q20 q21 q22 q23 q24 q25 q26 q27 q28 q29 q30 q31 q32 q33 q34 q35 q36 : Pos} {n1 n2 n3 n4 : Nat}
/-- what the class gives to all its methods -/
structure Rc (K : PySem.W.Frag) (C : Addr) : Prop where
  cls : Cls K C
  isO : PySem.W.findIn K (.ref C) "__class__" = some (some (.builtin "object.__class__")) ∧ PySem.W.specialIn K (.builtin "object.__class__") "__get__" = some (some (.builtin "getset_descriptor.__get__")) ∧ PySem.W.takesIn K (.builtin "object.__class__") = some true ∧ PySem.W.mroIn K C (.type "object") = some true
  nt : NoAttr K C "top"
  nb : NoAttr K C "bottom"
theorem fld_top {K : PySem.W.Frag} (c : Rc K C) {H : Hp} {a : Addr} {q : Rat} {i : Nat} {σ : L2.St} {Q : VK} (h : RatAt C H a q) (hi : σ[i]? = some (some (.ref a))) (hq : Q (.int q.num) H) : tFld K (tVar i) "top" σ H Q := by
  obtain ⟨dx, fs, h1, h2, h3⟩ := h
  exact ⟨_, hi, a, C, dx, fs, _, rfl, h1, c.cls, c.nt, h2, hq⟩
theorem fld_bot {K : PySem.W.Frag} (c : Rc K C) {H : Hp} {a : Addr} {q : Rat} {i : Nat} {σ : L2.St} {Q : VK} (h : RatAt C H a q) (hi : σ[i]? = some (some (.ref a))) (hq : Q (.int q.den) H) : tFld K (tVar i) "bottom" σ H Q := by
  obtain ⟨dx, fs, h1, h2, h3⟩ := h
  exact ⟨_, hi, a, C, dx, fs, _, rfl, h1, c.cls, c.nb, h3, hq⟩
abbrev two : List Str := ["self", "other"]
structure Sc2 (scope : Scope) : Prop where
  S : FnScope two two scope
  vs : visC scope "self" = true
  vo : visC scope "other" = true
  gr : glC scope "Ratio" = true
theorem ok_add (M : RMk P w K mg base C) (c : Rc K C) (F : FunD K "__add__" "Ratio.__add__" params [.Return (some (.Call (.Name "Ratio" q1) [.BinOp (.BinOp (.Attribute (.Name "self" q2) "top" q3) .Mult (.Attribute (.Name "other" q4) "bottom" q5) q6) .Add (.BinOp (.Attribute (.Name "other" q7) "top" q8) .Mult (.Attribute (.Name "self" q9) "bottom" q10) q11) q12, .BinOp (.Attribute (.Name "self" q13) "bottom" q14) .Mult (.Attribute (.Name "other" q15) "bottom" q16) q17] [] q18)) q19] scope [] [] f fd)
    (Z : Sc2 scope) : FnOk P w K mg base CX0 4 f fd two (spBin C fun a b => a + b) := by
  refine F.ok Z.S (fun vs H Q E h => by obtain ⟨p, q, a, b, rfl, _⟩ := h; rfl) fun cdv A outer s H vs Q E hr h => ?_
  have a := at_of (P := P) (w := w) (K := K) (mg := mg) (base := base) (f := f) (qual := "Ratio.__add__") (cdv := cdv) (A := A) (outer := outer) (s := s) (H := H) (E := E) Z.S
  have FS := fun {n : Str} {p q : Pos} => a.fld (i := 0) (x := "self") (n := n) (p := p) (q := q) rfl Z.vs
  have FO := fun {n : Str} {p q : Pos} => a.fld (i := 1) (x := "other") (n := n) (p := p) (q := q) rfl Z.vo
  refine ⟨_, PSs.nox (pss_one (ps_ret (mkR_of M hr (pa_cons (pe_op op_add (pe_op op_mulM FS FO) (pe_op op_mulM FO FS)) (pa_cons (pe_op op_mulM FS FO) pa_nil)) (gl_by Z.gr) rfl rfl))), ?_⟩
  obtain ⟨p, q, x, y, rfl, ⟨dx, fs, x1, x2, x3⟩, ⟨dy, gs, y1, y2, y3⟩, sx, sy, hq⟩ := h
  refine ⟨_, rfl, p, C, dx, fs, _, rfl, x1, c.cls, c.nt, x2, ?_⟩
  refine ⟨_, rfl, q, C, dy, gs, _, rfl, y1, c.cls, c.nb, y3, ?_⟩
  refine ⟨_, _, rfl, rfl, sm_mul sx.num (by simpa using sy.den), ?_⟩
  refine ⟨_, rfl, q, C, dy, gs, _, rfl, y1, c.cls, c.nt, y2, ?_⟩
  refine ⟨_, rfl, p, C, dx, fs, _, rfl, x1, c.cls, c.nb, x3, ?_⟩
  refine ⟨_, _, rfl, rfl, sm_mul sy.num (by simpa using sx.den), _, _, rfl, rfl, ?_⟩
  refine ⟨_, rfl, p, C, dx, fs, _, rfl, x1, c.cls, c.nb, x3, ?_⟩
  refine ⟨_, rfl, q, C, dy, gs, _, rfl, y1, c.cls, c.nb, y3, ?_⟩
  refine ⟨_, _, rfl, rfl, sm_mul (by simpa using sx.den) (by simpa using sy.den), ?_⟩
  refine ⟨[], _, .inr ⟨_, rfl, rat_den_ne, sm_log sx sy, fun r H' e hr' => hq r H' e ?_⟩⟩
  rw [rat_addE] at hr'
  exact hr'
theorem ok_sub (M : RMk P w K mg base C) (c : Rc K C) (F : FunD K "__sub__" "Ratio.__sub__" params [.Return (some (.Call (.Name "Ratio" q1) [.BinOp (.BinOp (.Attribute (.Name "self" q2) "top" q3) .Mult (.Attribute (.Name "other" q4) "bottom" q5) q6) .Sub (.BinOp (.Attribute (.Name "other" q7) "top" q8) .Mult (.Attribute (.Name "self" q9) "bottom" q10) q11) q12, .BinOp (.Attribute (.Name "self" q13) "bottom" q14) .Mult (.Attribute (.Name "other" q15) "bottom" q16) q17] [] q18)) q19] scope [] [] f fd)
    (Z : Sc2 scope) : FnOk P w K mg base CX0 4 f fd two (spBin C fun a b => a - b) := by
  refine F.ok Z.S (fun vs H Q E h => by obtain ⟨p, q, a, b, rfl, _⟩ := h; rfl) fun cdv A outer s H vs Q E hr h => ?_
  have a := at_of (P := P) (w := w) (K := K) (mg := mg) (base := base) (f := f) (qual := "Ratio.__sub__") (cdv := cdv) (A := A) (outer := outer) (s := s) (H := H) (E := E) Z.S
  have FS := fun {n : Str} {p q : Pos} => a.fld (i := 0) (x := "self") (n := n) (p := p) (q := q) rfl Z.vs
  have FO := fun {n : Str} {p q : Pos} => a.fld (i := 1) (x := "other") (n := n) (p := p) (q := q) rfl Z.vo
  refine ⟨_, PSs.nox (pss_one (ps_ret (mkR_of M hr (pa_cons (pe_op op_sub (pe_op op_mulM FS FO) (pe_op op_mulM FO FS)) (pa_cons (pe_op op_mulM FS FO) pa_nil)) (gl_by Z.gr) rfl rfl))), ?_⟩
  obtain ⟨p, q, x, y, rfl, ⟨dx, fs, x1, x2, x3⟩, ⟨dy, gs, y1, y2, y3⟩, sx, sy, hq⟩ := h
  refine ⟨_, rfl, p, C, dx, fs, _, rfl, x1, c.cls, c.nt, x2, ?_⟩
  refine ⟨_, rfl, q, C, dy, gs, _, rfl, y1, c.cls, c.nb, y3, ?_⟩
  refine ⟨_, _, rfl, rfl, sm_mul sx.num (by simpa using sy.den), ?_⟩
  refine ⟨_, rfl, q, C, dy, gs, _, rfl, y1, c.cls, c.nt, y2, ?_⟩
  refine ⟨_, rfl, p, C, dx, fs, _, rfl, x1, c.cls, c.nb, x3, ?_⟩
  refine ⟨_, _, rfl, rfl, sm_mul sy.num (by simpa using sx.den), _, _, rfl, rfl, ?_⟩
  refine ⟨_, rfl, p, C, dx, fs, _, rfl, x1, c.cls, c.nb, x3, ?_⟩
  refine ⟨_, rfl, q, C, dy, gs, _, rfl, y1, c.cls, c.nb, y3, ?_⟩
  refine ⟨_, _, rfl, rfl, sm_mul (by simpa using sx.den) (by simpa using sy.den), ?_⟩
  refine ⟨[], _, .inr ⟨_, rfl, rat_den_ne, sm_log sx sy, fun r H' e hr' => hq r H' e ?_⟩⟩
  rw [rat_subE] at hr'
  exact hr'
theorem ok_mul (M : RMk P w K mg base C) (c : Rc K C) (F : FunD K "__mul__" "Ratio.__mul__" params [.Return (some (.Call (.Name "Ratio" q1) [.BinOp (.Attribute (.Name "self" q2) "top" q3) .Mult (.Attribute (.Name "other" q4) "top" q5) q6, .BinOp (.Attribute (.Name "self" q13) "bottom" q14) .Mult (.Attribute (.Name "other" q15) "bottom" q16) q17] [] q18)) q19] scope [] [] f fd)
    (Z : Sc2 scope) : FnOk P w K mg base CX0 4 f fd two (spBin C fun a b => a * b) := by
  refine F.ok Z.S (fun vs H Q E h => by obtain ⟨p, q, a, b, rfl, _⟩ := h; rfl) fun cdv A outer s H vs Q E hr h => ?_
  have a := at_of (P := P) (w := w) (K := K) (mg := mg) (base := base) (f := f) (qual := "Ratio.__mul__") (cdv := cdv) (A := A) (outer := outer) (s := s) (H := H) (E := E) Z.S
  have FS := fun {n : Str} {p q : Pos} => a.fld (i := 0) (x := "self") (n := n) (p := p) (q := q) rfl Z.vs
  have FO := fun {n : Str} {p q : Pos} => a.fld (i := 1) (x := "other") (n := n) (p := p) (q := q) rfl Z.vo
  refine ⟨_, PSs.nox (pss_one (ps_ret (mkR_of M hr (pa_cons (pe_op op_mulM FS FO) (pa_cons (pe_op op_mulM FS FO) pa_nil)) (gl_by Z.gr) rfl rfl))), ?_⟩
  obtain ⟨p, q, x, y, rfl, ⟨dx, fs, x1, x2, x3⟩, ⟨dy, gs, y1, y2, y3⟩, sx, sy, hq⟩ := h
  refine ⟨_, rfl, p, C, dx, fs, _, rfl, x1, c.cls, c.nt, x2, ?_⟩
  refine ⟨_, rfl, q, C, dy, gs, _, rfl, y1, c.cls, c.nt, y2, ?_⟩
  refine ⟨_, _, rfl, rfl, sm_mul sx.num sy.num, ?_⟩
  refine ⟨_, rfl, p, C, dx, fs, _, rfl, x1, c.cls, c.nb, x3, ?_⟩
  refine ⟨_, rfl, q, C, dy, gs, _, rfl, y1, c.cls, c.nb, y3, ?_⟩
  refine ⟨_, _, rfl, rfl, sm_mul (by simpa using sx.den) (by simpa using sy.den), ?_⟩
  refine ⟨[], _, .inr ⟨_, rfl, rat_den_ne, sm_log sx sy, fun r H' e hr' => hq r H' e ?_⟩⟩
  rw [rat_mulE] at hr'
  exact hr'
abbrev one : List Str := ["self"]
theorem ok_neg (M : RMk P w K mg base C) (c : Rc K C) (F : FunD K "__neg__" "Ratio.__neg__" params [.Return (some (.Call (.Name "Ratio" q1) [.UnaryOp .USub (.Attribute (.Name "self" q2) "top" q3) q4, .Attribute (.Name "self" q5) "bottom" q6] [] q7)) q8] scope [] [] f fd)
    (S : FnScope one one scope) (vs : visC scope "self" = true) (gr : glC scope "Ratio" = true) : FnOk P w K mg base CX0 4 f fd one (spNeg C) := by
  refine F.ok S (fun vs H Q E h => by obtain ⟨p, a, rfl, _⟩ := h; rfl) fun cdv A outer s H vs' Q E hr h => ?_
  have a := at_of (P := P) (w := w) (K := K) (mg := mg) (base := base) (f := f) (qual := "Ratio.__neg__") (cdv := cdv) (A := A) (outer := outer) (s := s) (H := H) (E := E) S
  have FS := fun {n : Str} {p q : Pos} => a.fld (i := 0) (x := "self") (n := n) (p := p) (q := q) rfl vs
  refine ⟨_, PSs.nox (pss_one (ps_ret (mkR_of M hr (pa_cons (pe_un un_neg FS) (pa_cons FS pa_nil)) (gl_by gr) rfl rfl))), ?_⟩
  obtain ⟨p, x, rfl, ⟨dx, fs, x1, x2, x3⟩, sx, hq⟩ := h
  refine ⟨_, rfl, p, C, dx, fs, _, rfl, x1, c.cls, c.nt, x2, ?_⟩
  refine ⟨_, rfl, ?_⟩
  refine ⟨_, rfl, p, C, dx, fs, _, rfl, x1, c.cls, c.nb, x3, ?_⟩
  refine ⟨[], _, .inr ⟨_, rfl, by have := x.den_nz; omega, ?_, fun r H' e hr' => hq r H' e ?_⟩⟩
  · rw [Int.natAbs_natCast]
    have := log_bit sx.den
    omega
  · rw [rat_negE] at hr'
    exact hr'
/-! ### ==, != -/
theorem ok_eq (c : Rc K C) (isC : PySem.W.kitOne K (.ref C) (.ref C) = some true) (gR : mg "Ratio" = some (.ref C)) (gi : mg "isinstance" = none) (F : FunD K "__eq__" "Ratio.__eq__" params [.Return (some (.BoolOp .And [.Call (.Name "isinstance" q1) [.Name "other" q2, .Name "Ratio" q3] [] q4, .Compare (.Attribute (.Name "self" q5) "top" q6) [.Eq] [.Attribute (.Name "other" q7) "top" q8] q9, .Compare (.Attribute (.Name "self" q10) "bottom" q11) [.Eq] [.Attribute (.Name "other" q12) "bottom" q13] q14] q15)) q16] scope [] [] f fd)
    (Z : Sc2 scope) (gl : glC scope "isinstance" = true) : FnOk P w K mg base CX0 1 f fd two (spRel C false) := by
  refine F.ok Z.S (fun vs H Q E h => by obtain ⟨p, q, a, b, rfl, _⟩ := h; rfl) fun cdv A outer s H vs Q E hr h => ?_
  have a := at_of (P := P) (w := w) (K := K) (mg := mg) (base := base) (f := f) (qual := "Ratio.__eq__") (cdv := cdv) (A := A) (outer := outer) (s := s) (H := H) (E := E) Z.S
  have FS := fun {n : Str} {p q : Pos} => a.fld (i := 0) (x := "self") (n := n) (p := p) (q := q) rfl Z.vs
  have FO := fun {n : Str} {p q : Pos} => a.fld (i := 1) (x := "other") (n := n) (p := p) (q := q) rfl Z.vo
  refine ⟨_, PSs.nox (pss_one (ps_ret (pe_and (pe_callB call_isi (gl_by gl) gi (by decide +kernel) (pa_cons (a.v (i := 1) rfl Z.vo) (pa_cons (pe_glob (v := .ref C) (gl_by Z.gr) gR rfl) pa_nil))) (pe_and (pe_cmpR op_eq FS FO (nomark _)) (pe_one (pe_cmpR op_eq FS FO (nomark _))))))), ?_⟩
  obtain ⟨p, q, x, y, rfl, ⟨dx, fs, x1, x2, x3⟩, ⟨dy, gs, y1, y2, y3⟩, hq⟩ := h
  refine ⟨_, rfl, _, _, _, _, true, rfl, .own C, ?_, isC, _, rfl, ?_⟩
  · exact .base (.ins y1 c.cls c.isO.1 c.isO.2.1 c.isO.2.2.1 c.isO.2.2.2)
  · show (if true = true then _ else _)
    rw [if_pos rfl]
    refine ⟨_, rfl, p, C, dx, fs, _, rfl, x1, c.cls, c.nt, x2, ?_⟩
    refine ⟨_, rfl, q, C, dy, gs, _, rfl, y1, c.cls, c.nt, y2, ?_⟩
    refine ⟨rfl, _, rfl, ?_⟩
    have e := rat_eqE x y
    have e1 : decide (V.int x.num = V.int y.num) = decide (x.num = y.num) := by rw [dec_int]; rfl
    have e2 : decide (V.int (x.den : Int) = V.int (y.den : Int)) = decide ((x.den : Int) = (y.den : Int)) := by rw [dec_int]; rfl
    show (if decide (V.int x.num = V.int y.num) = true then _ else _)
    rw [e1]
    have hq' : Q (.bl (x == y)) H := hq
    rw [← e] at hq'
    by_cases h1 : x.num = y.num
    · rw [if_pos (decide_eq_true h1)] at hq' ⊢
      refine ⟨_, rfl, p, C, dx, fs, _, rfl, x1, c.cls, c.nb, x3, ?_⟩
      refine ⟨_, rfl, q, C, dy, gs, _, rfl, y1, c.cls, c.nb, y3, ?_⟩
      refine ⟨rfl, ?_⟩
      show Q (.bl (decide (V.int (x.den : Int) = V.int (y.den : Int)))) H
      rw [e2]
      exact hq'
    · rw [if_neg (by simpa using h1)] at hq' ⊢
      exact hq'
theorem ok_ne {k : Nat} (hk : k ≤ 1) (F : FunD K "__ne__" "Ratio.__ne__" params [.Return (some (.UnaryOp .Not (.Compare (.Name "self" q1) [.Eq] [.Name "other" q2] q3) q4)) q5] scope [] [] f fd)
    (M : MethOk P w K mg base C "__eq__" k (spRel C false)) (S : FnScope two two scope) (vs : visC scope "self" = true) (vo : visC scope "other" = true) : FnOk P w K mg base CX0 2 f fd two (spRel C true) := by
  refine F.ok S (fun vs H Q E h => by obtain ⟨p, q, a, b, rfl, _⟩ := h; rfl) fun cdv A outer s H vs' Q E hr h => ?_
  have a := at_of (P := P) (w := w) (K := K) (mg := mg) (base := base) (f := f) (qual := "Ratio.__ne__") (cdv := cdv) (A := A) (outer := outer) (s := s) (H := H) (E := E) S
  refine ⟨_, PSs.nox (pss_one (ps_ret (pe_notT (pe_cmpR (cmp_own (neg := false) (fun _ _ => rfl) M (hr.mono hk)) (a.v (i := 0) rfl vs) (a.v (i := 1) rfl vo) (nomark _))))), ?_⟩
  obtain ⟨p, q, x, y, rfl, hx, hy, hq⟩ := h
  exact ⟨_, rfl, _, rfl, p, q, x, y, rfl, rfl, hx, hy, (x == y), rfl, hq⟩
end
end Mp

namespace Mp
open PySem PySem.Spec
open PyProof.Rows L2
/-- what the head tells of the class -/
structure Rt (P : Program) (w : World) (K : PySem.W.Frag) (mg : Str → Option Value) (base : Heap) (C : Addr) (Gs : String → Option Int) : Prop where
  free : ∀ x ∈ blt, mg x = none
  gl : ∀ x i, Gs x = some i → ∃ t, mg (Str.ofString x) = some (.int i t)
  rc : Rc K C
  isT : ∀ T ∈ ["NoneType", "bool", "int", "str", "list", "tuple"], PySem.W.kitOne K (.type T) (.ref C) = some false
  isC : PySem.W.kitOne K (.ref C) (.ref C) = some true
  isB : ∀ T ∈ ["bool", "int", "str", "list", "tuple"], PySem.W.kitOne K (.ref C) (.type T) = some false
  first : PySem.W.selfFirst K C = true
  rmk : RMk P w K mg base C
  add : MethOk P w K mg base C "__add__" 4 (spBin C fun a b => a + b)
  sub : MethOk P w K mg base C "__sub__" 4 (spBin C fun a b => a - b)
  mul : MethOk P w K mg base C "__mul__" 4 (spBin C fun a b => a * b)
  neg : MethOk P w K mg base C "__neg__" 4 (spNeg C)
  eq : MethOk P w K mg base C "__eq__" 1 (spRel C false)
  ne : MethOk P w K mg base C "__ne__" 2 (spRel C true)
theorem room_units {A : Around} (h : Room BASE A) : A.units + 65 < cLine := by
  have := h.un
  unfold BASE at this
  omega
theorem wd_of {P : Program} {w : World} {K : PySem.W.Frag} {mg : Str → Option Value} {base : Heap} {C : Addr} {Γ : String → Option MDef} {Gs : String → Option Int} (r : Rt P w K mg base C Gs) (k : Nat) (h : FnAt P w K mg base C Γ k) : Wd P w K mg base C Γ Gs k where
  free := r.free
  gl := r.gl
  gR := r.rmk.gR
  cls := r.rc.cls
  ntop := r.rc.nt
  nbot := r.rc.nb
  isT := r.isT
  isC := r.isC
  isB := r.isB
  isO := r.rc.isO
  add := fun X ⟨h1, h2, h3, h4, h5⟩ hr => by subst h1 h2 h3 h4 h5; exact op_own (op := .Add) r.add (hr.mono (by decide)) r.first
  sub := fun X ⟨h1, h2, h3, h4, h5⟩ hr => by subst h1 h2 h3 h4 h5; exact op_own (op := .Sub) r.sub (hr.mono (by decide)) r.first
  mul := fun X ⟨h1, h2, h3, h4, h5⟩ hr => by subst h1 h2 h3 h4 h5; exact op_own (op := .Mult) r.mul (hr.mono (by decide)) r.first
  neg := fun X ⟨h1, h2, h3, h4, h5⟩ hr => by subst h1 h2 h3 h4 h5; exact neg_own r.neg (hr.mono (by decide))
  eq := fun X ⟨h1, h2, h3, h4, h5⟩ hr => by subst h1 h2 h3 h4 h5; exact op_eqT (by have := room_units hr; omega) (hr.mono (by decide)) r.eq (cmp_own (op := .Eq) (fun _ _ => rfl) r.eq (hr.mono (by decide)))
  ne := fun X ⟨h1, h2, h3, h4, h5⟩ hr => by subst h1 h2 h3 h4 h5; exact op_neT (by have := room_units hr; omega) (cmp_own (op := .NotEq) (fun _ _ => rfl) r.ne (hr.mono (by decide)))
  inn := fun X ⟨h1, h2, h3, h4, h5⟩ hr => by subst h1 h2 h3 h4 h5; exact op_inT (room_units hr) false
  nin := fun X ⟨h1, h2, h3, h4, h5⟩ hr => by subst h1 h2 h3 h4 h5; exact op_inT (room_units hr) true
  mkR := fun X ⟨h1, h2, h3, h4, h5⟩ hr e es t p pos ha hg he hpl => by subst h1 h2 h3 h4 h5; exact mkR_of r.rmk (hr.mono (by decide)) ha hg he hpl
  fn := h
end Mp

namespace Mp
open PySem PySem.Spec
open PyProof.Rows L2
/-! ### the head's facts, one Bool more -/
def hookQ (n : Nat) (fa : List He.Fa) (fn : List He.DefD) (ex : PySem.W.Frag → Bool) : PySem.W.Hook where
  α := He.AlD × Bool
  obs := fun s => (He.obsDG n fa fn s.heap.get?, ex (He.frG s.heap.get? (He.asD s.heap.get? n)))
  val := fun _ => (He.valD fn, true)
  says := fun _ h => ∃ K : PySem.W.Frag, K.In h ∧ He.SaysD fa fn K ∧ ex K = true
  of := fun _ _ e => ⟨_, He.frG_in, congrArg Prod.fst e, congrArg Prod.snd e⟩
  keeps := fun _ _ _ ⟨K, hK, c⟩ k => ⟨K, PySem.W.Frag.In.keeps hK k, c⟩
theorem hookQ_eq {n : Nat} {fa : List He.Fa} {fn : List He.DefD} {ex : PySem.W.Frag → Bool} {g : Addr → Option Obj} {s : Shared} (h : ∀ a, g a = s.heap.get? a) : ((He.obsDG n fa fn g, ex (He.frG g (He.asD g n))) : He.AlD × Bool) = (hookQ n fa fn ex).obs s := by
  have e : g = s.heap.get? := funext h
  rw [e] <;> rfl
theorem says_fact {fa : List He.Fa} {fn : List He.DefD} {K : PySem.W.Frag} (c : He.SaysD fa fn K) {f : He.Fa} (h : f ∈ fa) : f.ok K = true := by
  obtain ⟨i, hi, e⟩ := List.mem_iff_getElem.mp h
  exact c.fact i (f := f) (by rw [List.getElem?_eq_getElem hi, e])
theorem says_def {fa : List He.Fa} {fn : List He.DefD} {K : PySem.W.Frag} (c : He.SaysD fa fn K) {d : He.DefD} (h : d ∈ fn) : ∃ fd, FunD K d.name d.qual d.params d.body d.scope (d.dvs K) (d.kws K) (He.fAd K d.at_) fd := by
  obtain ⟨i, hi, e⟩ := List.mem_iff_getElem.mp h
  exact c.def_ i (d := d) (by rw [List.getElem?_eq_getElem hi, e])
/-- what is looked at beside -/
def exR (K : PySem.W.Frag) : Bool :=
  let C := He.ga K "Ratio"
  (decide (PySem.W.findIn K (.ref C) "__class__" = some (some (.builtin "object.__class__"))) && (decide (PySem.W.specialIn K (.builtin "object.__class__") "__get__" = some (some (.builtin "getset_descriptor.__get__"))) &&
    (decide (PySem.W.takesIn K (.builtin "object.__class__") = some true) && decide (PySem.W.mroIn K C (.type "object") = some true)))) &&
  ((["NoneType", "bool", "int", "str", "list", "tuple"].all fun T => decide (PySem.W.kitOne K (.type T) (.ref C) = some false)) && (decide (PySem.W.kitOne K (.ref C) (.ref C) = some true) &&
    ((["bool", "int", "str", "list", "tuple"].all fun T => decide (PySem.W.kitOne K (.ref C) (.type T) = some false)) && PySem.W.selfFirst K C)))
/-- the facts that every law asks for -/
def faR : List He.Fa := blt.map He.Fa.free ++ [.glo "Ratio", .glo "greatest_divisor", .cls "Ratio", .noat "Ratio" "top", .noat "Ratio" "bottom", .mkr "Ratio", .meth "Ratio" "__add__", .meth "Ratio" "__sub__", .meth "Ratio" "__mul__", .meth "Ratio" "__neg__", .meth "Ratio" "__eq__", .meth "Ratio" "__ne__"]
def dMod (x : String) (st : Stmt) : He.DefD := ⟨(Str.ofString x, none), Str.ofString x, Str.ofString x, defArgs st, defBody st, defScope st, [], []⟩
def dMet (m q : String) (st : Stmt) (dfl : List He.Dv) : He.DefD := ⟨("Ratio", some (Str.ofString m)), Str.ofString m, Str.ofString q, defArgs st, defBody st, defScope st, dfl, []⟩
def clsBody : Stmt → List Stmt
  | .ClassDef _ _ _ b _ _ _ _ _ _ _ => b
  | _ => []
def kid (st : Stmt) (i : Nat) : Stmt := (clsBody st).getD i (.Pass ⟨0, 0, 0, 0⟩)
def fnR (g c : Stmt) : List He.DefD := [dMod "greatest_divisor" g, dMet "__init__" "Ratio.__init__" (kid c 0) [.int 1], dMet "__eq__" "Ratio.__eq__" (kid c 1) [], dMet "__ne__" "Ratio.__ne__" (kid c 2) [], dMet "__add__" "Ratio.__add__" (kid c 3) [], dMet "__sub__" "Ratio.__sub__" (kid c 4) [], dMet "__mul__" "Ratio.__mul__" (kid c 5) [], dMet "__neg__" "Ratio.__neg__" (kid c 6) []]
/-- a def's scope, looked at -/
def scQ (N P : List Str) (sc : Scope) : Bool :=
  (decide (sc.kind = .function) && (!sc.isCoroutine && !sc.isGenerator)) && ((decide N.Nodup && decide (N.take P.length = P)) && (P.all (fun x => locC sc x) && sc.names.all (fun y => !decide (y.2 = .free))))
theorem scQ_ok {N P : List Str} {sc : Scope} (h : scQ N P sc = true) : FnScope N P sc := by
  unfold scQ at h
  simp only [Bool.and_eq_true, Bool.not_eq_true', decide_eq_true_eq, List.all_eq_true, decide_eq_false_iff_not] at h
  obtain ⟨⟨h1, h2, h3⟩, ⟨h4, h5⟩, h6, h7⟩ := h
  exact ⟨h1, h2, h3, h4, h5, fun x hx => loc_by (h6 x hx), h7⟩
/-- a def, by what is looked at -/
theorem defok_of {K : PySem.W.Frag} {h : Heap} {mg : Str → Option Value} {fa : List He.Fa} {fn : List He.DefD} {Γ : String → Option MDef} {Gs : String → Option Int} (X : K.In h) (G : h.Ns mainGlobals mg) (c : He.SaysD fa fn K) {x : String} {st : Stmt} {N ps : List Str} {md : MDef}
    (hd : dMod x st ∈ fn) (hg : He.Fa.glo (Str.ofString x) ∈ fa) (hs : scQ N ps (defScope st) = true) (h1 : ps.length = md.np) (h2 : N.length = md.n)
    (hb : ∀ (kV doc pm : Value) (an : Option Addr) (cdv ct : Value) (us : List Value), us.length = ps.length → bindArgs (PySem.W.fnOf (Str.ofString x) (Str.ofString x) (defArgs st) (defBody st) (defScope st) .none kV doc pm an cdv ct) ⟨us, []⟩ = pure (ps.zip us))
    (em : embSs N Γ Gs (defScope st) md.body (defBody st) = true) : DefOk K mg Γ Gs x md := by
  obtain ⟨fd, F⟩ := says_def c hd
  have F : FunD K (Str.ofString x) (Str.ofString x) (defArgs st) (defBody st) (defScope st) [] [] (He.fAd K (Str.ofString x, none)) fd := F
  exact ⟨N, ps, _, _, _, _, fd, F, scQ_ok hs, h1, h2, He.glo_ok X G (says_fact c hg), F.bindsN hb, em⟩
theorem mem_fa {K : PySem.W.Frag} {fa : List He.Fa} {fn : List He.DefD} (c : He.SaysD (faR ++ fa) fn K) {f : He.Fa} (h : f ∈ faR) : f.ok K = true := says_fact c (List.mem_append_left _ h)
theorem mem_look {α : Type} {x : String} {y : α} : ∀ {l : List (String × α)}, l.lookup x = some y → (x, y) ∈ l
  | [], h => by cases h
  | (a, b) :: r, h => by
    rw [List.lookup_cons] at h
    split at h
    · rename_i e
      cases h
      rw [beq_iff_eq.mp e]
      exact List.mem_cons_self
    · exact List.mem_cons_of_mem _ (mem_look h)
end Mp

namespace Mp
open PySem PySem.Spec
open PyProof.Rows L2
/-! ### statements that may raise -/
def wpFor (B : En → Strm → (Fl → Strm → Prop) → Prop) (t : Tg) (kill : List Nat) : List D → En → Strm → (Fl → Strm → Prop) → Prop
  | [], e, s, Q => Q (.nx e) s
  | x :: xs, e, s, Q => W (asgT t x e) s fun e1 s1 => B e1 s1 fun r s2 => match r with
    | .nx e2 => wpFor B t kill xs (kilE kill e2) s2 Q
    | .cont e2 => wpFor B t kill xs (kilE kill e2) s2 Q
    | .brk e2 => Q (.nx (kilE kill e2)) s2
    | .ret d => Q (.ret d) s2
/-- behind a statement: the rest of the block, or out -/
def nxS (n : En → Strm → (Fl → Strm → Prop) → Prop) (Q : Fl → Strm → Prop) : Fl → Strm → Prop
  | .nx e, s => n e s Q
  | r, s => Q r s
section
variable (cf : CF) (E : String → Strm → Prop)
mutual
def wpS : MS → En → Strm → (Fl → Strm → Prop) → Prop
  | .raise c, _, s, _ => E c s
  | .ite c a b, env, s, Q => W (tru (ev cf env .t c)) s fun r s1 => if r = true then wpSs a env s1 Q else wpSs b env s1 Q
  | .loop t it body kill, env, s, Q => W (items cf env it) s fun ds s1 => D.noOwns ds = true ∧ wpFor (fun e s Q => wpSs body e s Q) t kill ds (kilE kill env) s1 Q
  | .asg t e, env, s, Q => W (run cf env (.asg t e)) s Q
  | .ret e, env, s, Q => W (run cf env (.ret e)) s Q
  | _, _, _, _ => False
def wpSs : MSs → En → Strm → (Fl → Strm → Prop) → Prop
  | .nil, env, s, Q => Q (.nx env) s
  | .cons a as, env, s, Q => wpS a env s (nxS (fun e s Q => wpSs as e s Q) Q)
end
theorem wpFor_mono {B : En → Strm → (Fl → Strm → Prop) → Prop} (hB : ∀ e s Q Q', (∀ r s, Q r s → Q' r s) → B e s Q → B e s Q') {t : Tg} {kill : List Nat} {Q Q' : Fl → Strm → Prop} (h : ∀ r s, Q r s → Q' r s) : ∀ (xs : List D) (e : En) (s : Strm), wpFor B t kill xs e s Q → wpFor B t kill xs e s Q'
  | [], e, s, w => h _ _ w
  | x :: xs, e, s, w => by
    rw [wpFor] at w ⊢
    refine W_mono w fun e1 s1 w => hB _ _ _ _ (fun r s2 q => ?_) w
    cases r with
    | nx e2 => exact wpFor_mono hB h xs _ _ q
    | cont e2 => exact wpFor_mono hB h xs _ _ q
    | brk e2 => exact h _ _ q
    | ret d => exact h _ _ q
mutual
theorem wpS_mono : ∀ (m : MS) (env : En) (s : Strm) (Q Q' : Fl → Strm → Prop), (∀ r s, Q r s → Q' r s) → wpS cf E m env s Q → wpS cf E m env s Q'
  | .raise c, env, s, Q, Q', h, w => by rw [wpS] at w ⊢; exact w
  | .ite c a b, env, s, Q, Q', h, w => by
    rw [wpS] at w ⊢
    refine W_mono w fun r s1 q => ?_
    cases r with
    | true => rw [if_pos rfl] at q ⊢; exact wpSs_mono a _ _ _ _ h q
    | false => rw [if_neg (by decide)] at q ⊢; exact wpSs_mono b _ _ _ _ h q
  | .loop t it body kill, env, s, Q, Q', h, w => by
    rw [wpS] at w ⊢
    exact W_mono w fun ds s1 q => ⟨q.1, wpFor_mono (fun e s Q Q' h w => wpSs_mono body e s Q Q' h w) h _ _ _ q.2⟩
  | .asg t e, env, s, Q, Q', h, w => by rw [wpS] at w ⊢; exact W_mono w h
  | .ret e, env, s, Q, Q', h, w => by rw [wpS] at w ⊢; exact W_mono w h
  | .par .., env, s, Q, Q', h, w => by simp [wpS] at w
  | .aug .., env, s, Q, Q', h, w => by simp [wpS] at w
  | .set1 .., env, s, Q, Q', h, w => by simp [wpS] at w
  | .set2 .., env, s, Q, Q', h, w => by simp [wpS] at w
  | .app .., env, s, Q, Q', h, w => by simp [wpS] at w
  | .appm .., env, s, Q, Q', h, w => by simp [wpS] at w
  | .spoil .., env, s, Q, Q', h, w => by simp [wpS] at w
  | .app0 .., env, s, Q, Q', h, w => by simp [wpS] at w
  | .ext .., env, s, Q, Q', h, w => by simp [wpS] at w
  | .ins .., env, s, Q, Q', h, w => by simp [wpS] at w
  | .pop .., env, s, Q, Q', h, w => by simp [wpS] at w
  | .exp .., env, s, Q, Q', h, w => by simp [wpS] at w
  | .retv .., env, s, Q, Q', h, w => by simp [wpS] at w
  | .retN, env, s, Q, Q', h, w => by simp [wpS] at w
  | .while .., env, s, Q, Q', h, w => by simp [wpS] at w
  | .brk, env, s, Q, Q', h, w => by simp [wpS] at w
  | .cont, env, s, Q, Q', h, w => by simp [wpS] at w
  | .pass, env, s, Q, Q', h, w => by simp [wpS] at w
  | .frz .., env, s, Q, Q', h, w => by simp [wpS] at w
  | .kil .., env, s, Q, Q', h, w => by simp [wpS] at w
  | .mv .., env, s, Q, Q', h, w => by simp [wpS] at w
theorem wpSs_mono : ∀ (m : MSs) (env : En) (s : Strm) (Q Q' : Fl → Strm → Prop), (∀ r s, Q r s → Q' r s) → wpSs cf E m env s Q → wpSs cf E m env s Q'
  | .nil, env, s, Q, Q', h, w => by rw [wpSs] at w ⊢; exact h _ _ w
  | .cons a as, env, s, Q, Q', h, w => by
    rw [wpSs] at w ⊢
    refine wpS_mono a _ _ _ _ (fun r s1 q => ?_) w
    cases r with
    | nx e => exact wpSs_mono as _ _ _ _ h q
    | brk e => exact h _ _ q
    | cont e => exact h _ _ q
    | ret d => exact h _ _ q
end
end
section
variable {cf : CF} {E E' : String → Strm → Prop}
theorem wpFor_err {B B' : En → Strm → (Fl → Strm → Prop) → Prop} (hB : ∀ e s Q, B e s Q → B' e s Q) (hm : ∀ e s Q Q', (∀ r s, Q r s → Q' r s) → B' e s Q → B' e s Q') {t : Tg} {kill : List Nat} {Q : Fl → Strm → Prop} : ∀ (xs : List D) (e : En) (s : Strm), wpFor B t kill xs e s Q → wpFor B' t kill xs e s Q
  | [], e, s, w => w
  | x :: xs, e, s, w => by
    rw [wpFor] at w ⊢
    refine W_mono w fun e1 s1 w => hm _ _ _ _ (fun r s2 q => ?_) (hB _ _ _ w)
    cases r with
    | nx e2 => exact wpFor_err hB hm xs _ _ q
    | cont e2 => exact wpFor_err hB hm xs _ _ q
    | brk e2 => exact q
    | ret d => exact q
mutual
theorem wpS_err (h : ∀ c s, E c s → E' c s) : ∀ (m : MS) {env : En} {s : Strm} {Q : Fl → Strm → Prop}, wpS cf E m env s Q → wpS cf E' m env s Q
  | .raise c, env, s, Q, w => by rw [wpS] at w ⊢; exact h _ _ w
  | .ite c a b, env, s, Q, w => by
    rw [wpS] at w ⊢
    refine W_mono w fun r s1 q => ?_
    cases r with
    | true => rw [if_pos rfl] at q ⊢; exact wpSs_err h a q
    | false => rw [if_neg (by decide)] at q ⊢; exact wpSs_err h b q
  | .loop t it body kill, env, s, Q, w => by
    rw [wpS] at w ⊢
    exact W_mono w fun ds s1 q => ⟨q.1, wpFor_err (fun e s Q w => wpSs_err h body w) (fun e s Q Q' h w => wpSs_mono _ _ body e s Q Q' h w) _ _ _ q.2⟩
  | .asg t e, env, s, Q, w => by rw [wpS] at w ⊢; exact w
  | .ret e, env, s, Q, w => by rw [wpS] at w ⊢; exact w
  | .par .., env, s, Q, w => by simp [wpS] at w
  | .aug .., env, s, Q, w => by simp [wpS] at w
  | .set1 .., env, s, Q, w => by simp [wpS] at w
  | .set2 .., env, s, Q, w => by simp [wpS] at w
  | .app .., env, s, Q, w => by simp [wpS] at w
  | .appm .., env, s, Q, w => by simp [wpS] at w
  | .spoil .., env, s, Q, w => by simp [wpS] at w
  | .app0 .., env, s, Q, w => by simp [wpS] at w
  | .ext .., env, s, Q, w => by simp [wpS] at w
  | .ins .., env, s, Q, w => by simp [wpS] at w
  | .pop .., env, s, Q, w => by simp [wpS] at w
  | .exp .., env, s, Q, w => by simp [wpS] at w
  | .retv .., env, s, Q, w => by simp [wpS] at w
  | .retN, env, s, Q, w => by simp [wpS] at w
  | .while .., env, s, Q, w => by simp [wpS] at w
  | .brk, env, s, Q, w => by simp [wpS] at w
  | .cont, env, s, Q, w => by simp [wpS] at w
  | .pass, env, s, Q, w => by simp [wpS] at w
  | .frz .., env, s, Q, w => by simp [wpS] at w
  | .kil .., env, s, Q, w => by simp [wpS] at w
  | .mv .., env, s, Q, w => by simp [wpS] at w
theorem wpSs_err (h : ∀ c s, E c s → E' c s) : ∀ (m : MSs) {env : En} {s : Strm} {Q : Fl → Strm → Prop}, wpSs cf E m env s Q → wpSs cf E' m env s Q
  | .nil, env, s, Q, w => by rw [wpSs] at w ⊢; exact w
  | .cons a as, env, s, Q, w => by
    rw [wpSs] at w ⊢
    refine wpS_mono _ _ a _ _ _ _ (fun r s1 q => ?_) (wpS_err h a w)
    cases r with
    | nx e => exact wpSs_err h as q
    | brk e => exact q
    | cont e => exact q
    | ret d => exact q
end
end
/-- what a context wishes of an exception of a class of the program -/
def ErrA (C : Addr) (cv : String → Addr) (X : Cx) (Wx : WX) (p0 : Option Addr) (H0 : Hp) (G0 : GS) : String → Strm → Prop := fun c s' => ∀ H' G' env' σ', StX X.K C p0 H0 G0 H' G' s' env' σ' → Wx (.ref (cv c)) none σ' H'
section
variable (C : Addr) (cv : String → Addr) (Γ : String → Option MDef) (k : Nat) (X : Cx) (Wx : WX)
def SX (m : MS) (e : Stmt) : Prop := ∃ t, PS X e t ∧ ∀ (p0 : Option Addr) (H0 : Hp) (G0 : GS) (H : Hp) (G : GS) (s : Strm) (env : En) (σ : L2.St) (Q : Ends), StX X.K C p0 H0 G0 H G s env σ →
  wpS (callF Γ k) (ErrA C cv X Wx p0 H0 G0) m env s (PostS C X p0 H0 G0 H G Q) → t Q σ H
def SXs (m : MSs) (es : List Stmt) : Prop := ∃ t, PSs X es t ∧ ∀ (p0 : Option Addr) (H0 : Hp) (G0 : GS) (H : Hp) (G : GS) (s : Strm) (env : En) (σ : L2.St) (Q : Ends), StX X.K C p0 H0 G0 H G s env σ →
  wpSs (callF Γ k) (ErrA C cv X Wx p0 H0 G0) m env s (PostS C X p0 H0 G0 H G Q) → t Q σ H
end
section
variable {C : Addr} {cv : String → Addr} {Γ : String → Option MDef} {Gs : String → Option Int} {k : Nat} {X : Cx} {Wx : WX} {p0 : Option Addr} {H H1 H2 H' H0 : Hp} {G G1 G2 G' G0 : GS} {s s2 s' : Strm} {env : En} {σ : L2.St}
theorem sx_lift {m : MS} {e : Stmt} (h : SS C Γ k X m e) (hm : ∀ cf E env s Q, wpS cf E m env s Q → W (run cf env m) s Q) : SX C cv Γ k X Wx m e := by
  obtain ⟨t, a, b⟩ := h
  exact ⟨t, a, fun p0 H0 G0 H G s env σ Q x w => b p0 H0 G0 H G s env σ Q x (hm _ _ _ _ _ w)⟩
/-- an own class of exceptions, told by the module -/
structure XcOk (K : PySem.W.Frag) (mg : Str → Option Value) (cv : String → Addr) (c : String) : Prop where
  exc : PySem.W.excIn K (cv c) He.veBase "ValueError.__new__" = true
  keep : PySem.W.keepIn K (.ref (cv c)) = true
  sub : PySem.W.subIn K (.ref (cv c)) (.type "BaseException") = some true
  ty : PySem.W.typeIn K (.ref (cv c)) = some (.type "type")
  gl : mg (Str.ofString c) = some (.ref (cv c))
theorem sx_raise {c : String} {m : Str} {j : Nat} {p p2 pos pos2 : Pos} (hc : X.calm = true) (tk : Takes X Wx) (xc : XcOk X.K X.mg cv c) (hg : Gl X (Str.ofString c)) (hd : (Str.ofString c == ("__debug__" : Str)) = false) :
    SX C cv Γ k X Wx (.raise c) (.Raise (some (.Call (.Name (Str.ofString c) p) [.Constant (.str m) j p2] [] pos)) none pos2) := by
  refine ⟨_, ps_raise hc tk (pmk_own PySem.F.excBase_ValueError xc.exc xc.gl xc.keep (raises_own xc.sub xc.ty) hg hd), fun p0 H0 G0 H G s env σ Q x w => ?_⟩
  rw [wpS] at w
  exact w H G env σ x
theorem sx_ite {c : ME} {a b : MSs} {e : Expr} {as bs : List Stmt} {pos : Pos} (hc : ST C Γ k X c e) (ha : SXs C cv Γ k X Wx a as) (hb : SXs C cv Γ k X Wx b bs) : SX C cv Γ k X Wx (.ite c a b) (.If e as bs pos) := by
  obtain ⟨tc, c1, c2⟩ := hc
  obtain ⟨ta, a1, a2⟩ := ha
  obtain ⟨tb, b1, b2⟩ := hb
  refine ⟨_, ps_if c1 a1 b1, fun p0 H0 G0 H G s env σ Q x h => ?_⟩
  rw [wpS] at h
  refine c2 p0 H0 G0 H G s env σ _ x (W_mono h fun r s1 q H1 G1 g1 x1 => ?_)
  cases r with
  | true =>
    rw [if_pos rfl] at q
    exact ite2 (fun _ => a2 p0 H0 G0 H1 G1 s1 env σ Q x1 (wpSs_mono _ _ _ _ _ _ _ (fun r s2 q => PostS.evo g1.evo q) q)) fun z => absurd rfl z
  | false =>
    rw [if_neg (by decide)] at q
    exact ite2 (fun z => by cases z) fun _ => b2 p0 H0 G0 H1 G1 s1 env σ Q x1 (wpSs_mono _ _ _ _ _ _ _ (fun r s2 q => PostS.evo g1.evo q) q)
theorem sx_loop (g : Gd C Γ Gs k X) {t : Tg} {m : MI} {body : MSs} {kill : List Nat} {tg iter : Expr} {bs : List Stmt} {pos : Pos} (hi : SI C Γ k X tg m iter) (hg : PG X tg (gT X.K t)) (hb : SXs C cv Γ k X Wx body bs) (hs : ∀ x, foldedSetIterable iter X.env x = pure x) :
    SX C cv Γ k X Wx (.loop t m body kill) (.For tg iter bs [] pos) := by
  obtain ⟨wi, i1, i2⟩ := hi
  obtain ⟨tb, b1, b2⟩ := hb
  refine ⟨_, ps_for g.po g.calm i1 hg b1 hs, fun p0 H0 G0 H G s env σ Q x h => ?_⟩
  rw [wpS] at h
  refine i2 p0 H0 G0 H G s env σ _ x (W_mono h fun ds s1 q => ?_)
  obtain ⟨c2, q⟩ := q
  refine ⟨c2, fun H1 G1 J g1 x1 yl => ?_⟩
  let Inv : Nat → L2.St → Hp → Prop := fun i σ Hi => ∃ Gi si envi, Evo p0 H1 G1 Hi Gi ∧ StX X.K C p0 H0 G0 Hi Gi si envi σ ∧ wpFor (fun e s Q => wpSs (callF Γ k) (ErrA C cv X Wx p0 H0 G0) body e s Q) t kill (ds.drop i) envi si (PostS C X p0 H0 G0 H1 G1 Q)
  refine ⟨fun i mm σ Hi => mm = ds.length - i ∧ i ≤ ds.length ∧ Inv i σ Hi, ⟨ds.length, by simp, Nat.zero_le _, G1, s1, _, Grow.rfl'.evo, x1.kill kill, wpFor_mono (fun e s Q Q' h w => wpSs_mono _ _ body e s Q Q' h w) (fun r s2 q => PostS.evo g1.evo q) _ _ _ q⟩, ?_⟩
  rintro i mm σ Hi ⟨rfl, hle, Gi, si, envi, ei, xi, w⟩
  by_cases hlt : i < ds.length
  · obtain ⟨go, yld⟩ := yl.1 i ds[i] Hi Gi (List.getElem?_eq_getElem hlt) ei xi.pl
    refine .inr ⟨go, Inv (i + 1), fun σ' H' n => ⟨ds.length - (i + 1), by omega, rfl, hlt, n⟩, fun y H3 hy => ?_⟩
    obtain ⟨ex, ry⟩ := yld y H3 hy
    have x3 := xi.ex' ex
    have e3 : Evo p0 H1 G1 H3 Gi := ei.trans (grow_ex ex).evo
    rw [List.drop_eq_getElem_cons hlt, wpFor] at w
    refine tg_sem t (x3.beside Grow.rfl' (Reps.cons ry Reps.nil) .nil (by simp)) w fun env' σ' q e => ?_
    have x4 := x3.envs e
    refine b2 p0 H0 G0 H3 Gi si env' σ' _ x4 (wpSs_mono _ _ _ _ _ _ _ (fun r s2 q => ?_) q)
    cases r with
    | nx e2 => exact fun H' G' σ2 e' x' => ⟨G', s2, _, e3.trans e', x'.kill kill, q⟩
    | cont e2 => exact fun H' G' σ2 e' x' => ⟨G', s2, _, e3.trans e', x'.kill kill, q⟩
    | brk e2 => exact fun H' G' σ2 e' x' => (show PostS C X p0 H0 G0 H1 G1 Q (.nx (kilE kill e2)) s2 from q) H' G' σ2 (e3.trans e') (x'.kill kill)
    | ret d => exact q
  · have e : i = ds.length := by omega
    subst e
    rw [List.drop_length] at w
    exact .inl ⟨yl.2 Hi Gi ei xi.pl, (show PostS C X p0 H0 G0 H1 G1 Q (.nx envi) si from w) Hi Gi σ ei xi⟩
theorem sxs_nil : SXs C cv Γ k X Wx .nil [] := ⟨_, pss_nil, fun p0 H0 G0 H G s env σ Q x h => by
  rw [wpSs] at h
  exact (show PostS C X p0 H0 G0 H G Q (.nx env) s from h) H G σ Grow.rfl'.evo x⟩
theorem sxs_cons {m : MS} {ms : MSs} {e : Stmt} {es : List Stmt} (h1 : SX C cv Γ k X Wx m e) (h2 : SXs C cv Γ k X Wx ms es) : SXs C cv Γ k X Wx (.cons m ms) (e :: es) := by
  obtain ⟨t, a1, a2⟩ := h1
  obtain ⟨u, b1, b2⟩ := h2
  refine ⟨_, pss_cons a1 b1, fun p0 H0 G0 H G s env σ Q x h => ?_⟩
  rw [wpSs] at h
  refine a2 p0 H0 G0 H G s env σ _ x (wpS_mono _ _ _ _ _ _ _ (fun r s1 q => ?_) h)
  cases r with
  | nx e2 => exact fun H' G' σ' e' x' => b2 p0 H0 G0 H' G' s1 e2 σ' Q x' (wpSs_mono _ _ _ _ _ _ _ (fun r s2 q => PostS.evo e' q) q)
  | brk e2 => exact q
  | cont e2 => exact q
  | ret d => exact q
end
/-! ### the text, looked at -/
section
variable (N : List Str) (Γ : String → Option MDef) (Gs : String → Option Int)
mutual
def embX (sc : Scope) : MS → Stmt → Bool
  | .raise c, e => match e with
    | .Raise (some (.Call (.Name x _) [.Constant (.str _) _ _] [] _)) none _ => decide (x = Str.ofString c) && (glC sc x && (!(x == ("__debug__" : Str)) && ["BadMove", "BadSheet"].contains c))
    | _ => false
  | .ite c a b, e => match e with
    | .If e as bs _ => embE N Γ Gs sc c e && (embXs sc a as && embXs sc b bs)
    | _ => false
  | .loop t it body _, e => match e with
    | .For tg iter bs [] _ => (tgC N (locC sc) t tg && noSet iter) && (embI N Γ Gs sc tg it iter && embXs sc body bs)
    | _ => false
  | .asg t m, e => embS N Γ Gs sc (.asg t m) e
  | .ret m, e => embS N Γ Gs sc (.ret m) e
  | _, _ => false
def embXs (sc : Scope) : MSs → List Stmt → Bool
  | .nil, [] => true
  | .cons m ms, e :: es => embX sc m e && embXs sc ms es
  | _, _ => false
end
end
section
variable {C : Addr} {cv : String → Addr} {Γ : String → Option MDef} {Gs : String → Option Int} {k : Nat}
mutual
theorem embX_ok {Wx : WX} : ∀ (m : MS) {e : Stmt} {X : Cx}, Gd C Γ Gs k X → Bd X → Takes X Wx → (∀ c ∈ ["BadMove", "BadSheet"], XcOk X.K X.mg cv c) → embX X.N Γ Gs X.env.scope m e = true → SX C cv Γ k X Wx m e
  | .raise c, e, X, g, bd, tk, xc, h => by
    unfold embX at h
    split at h
    · simp only [Bool.and_eq_true, decide_eq_true_eq, Bool.not_eq_true', List.contains_iff_mem] at h
      obtain ⟨rfl, h2, h3, h4⟩ := h
      exact sx_raise g.calm tk (xc c h4) (gl_by h2) h3
    · cases h
  | .ite c a b, e, X, g, bd, tk, xc, h => by
    unfold embX at h
    split at h
    · simp only [Bool.and_eq_true] at h
      exact sx_ite (embE_ok c g h.1).t (embXs_ok a g bd tk xc h.2.1) (embXs_ok b g bd tk xc h.2.2)
    · cases h
  | .loop t it body kl, e, X, g, bd, tk, xc, h => by
    unfold embX at h
    split at h
    · simp only [Bool.and_eq_true] at h
      obtain ⟨⟨h1, h2⟩, h3, h4⟩ := h
      exact sx_loop g (embI_ok it g h3) (pg_by (locC X.env.scope) g.calm g.nd bd.ok h1) (embXs_ok body g bd tk xc h4) (set_by h2 _)
    · cases h
  | .asg t m, e, X, g, bd, tk, xc, h => by
    unfold embX at h
    exact sx_lift (embS_ok _ g bd h) fun cf E env s Q w => by rw [wpS] at w; exact w
  | .ret m, e, X, g, bd, tk, xc, h => by
    unfold embX at h
    exact sx_lift (embS_ok _ g bd h) fun cf E env s Q w => by rw [wpS] at w; exact w
  | .par .., e, X, g, bd, tk, xc, h => by unfold embX at h; cases h
  | .aug .., e, X, g, bd, tk, xc, h => by unfold embX at h; cases h
  | .set1 .., e, X, g, bd, tk, xc, h => by unfold embX at h; cases h
  | .set2 .., e, X, g, bd, tk, xc, h => by unfold embX at h; cases h
  | .app .., e, X, g, bd, tk, xc, h => by unfold embX at h; cases h
  | .appm .., e, X, g, bd, tk, xc, h => by unfold embX at h; cases h
  | .spoil .., e, X, g, bd, tk, xc, h => by unfold embX at h; cases h
  | .app0 .., e, X, g, bd, tk, xc, h => by unfold embX at h; cases h
  | .ext .., e, X, g, bd, tk, xc, h => by unfold embX at h; cases h
  | .ins .., e, X, g, bd, tk, xc, h => by unfold embX at h; cases h
  | .pop .., e, X, g, bd, tk, xc, h => by unfold embX at h; cases h
  | .exp .., e, X, g, bd, tk, xc, h => by unfold embX at h; cases h
  | .retv .., e, X, g, bd, tk, xc, h => by unfold embX at h; cases h
  | .retN, e, X, g, bd, tk, xc, h => by unfold embX at h; cases h
  | .while .., e, X, g, bd, tk, xc, h => by unfold embX at h; cases h
  | .brk, e, X, g, bd, tk, xc, h => by unfold embX at h; cases h
  | .cont, e, X, g, bd, tk, xc, h => by unfold embX at h; cases h
  | .pass, e, X, g, bd, tk, xc, h => by unfold embX at h; cases h
  | .frz .., e, X, g, bd, tk, xc, h => by unfold embX at h; cases h
  | .kil .., e, X, g, bd, tk, xc, h => by unfold embX at h; cases h
  | .mv .., e, X, g, bd, tk, xc, h => by unfold embX at h; cases h
theorem embXs_ok {Wx : WX} : ∀ (m : MSs) {es : List Stmt} {X : Cx}, Gd C Γ Gs k X → Bd X → Takes X Wx → (∀ c ∈ ["BadMove", "BadSheet"], XcOk X.K X.mg cv c) → embXs X.N Γ Gs X.env.scope m es = true → SXs C cv Γ k X Wx m es
  | .nil, es, X, g, bd, tk, xc, h => by
    cases es with
    | nil => exact sxs_nil
    | cons e es => unfold embXs at h; cases h
  | .cons m ms, es, X, g, bd, tk, xc, h => by
    cases es with
    | nil => unfold embXs at h; cases h
    | cons e es =>
      unfold embXs at h
      simp only [Bool.and_eq_true] at h
      exact sxs_cons (embX_ok m g bd tk xc h.1) (embXs_ok ms g bd tk xc h.2)
end
end
/-! ### a def that may raise -/
/-- what is shown of it, by values -/
def spEvX (K : PySem.W.Frag) (C : Addr) (cv : String → Addr) (Γ : String → Option MDef) (k : Nat) (md : MDef) : Sp := fun vs H Q E => vs.length = md.np ∧
  ∃ (p0 : Option Addr) (s : Strm) (G : GS) (ds : List D), StAt p0 H G s ∧ (∀ p, G p → some p ≠ p0 ∧ ∃ o, H p = some o) ∧ Reps K C p0 H G ds vs [] ∧
    wpSs (callF Γ k) (fun c s' => ∀ H' G', Grow p0 H G H' G' → StAt p0 H' G' s' → (∀ p, G' p → some p ≠ p0 ∧ ∃ o, H' p = some o) → E (.ref (cv c)) none H') md.body (ds.map some ++ List.replicate (md.n - md.np) none) s fun r s' => match r with
      | .nx _ => ∀ H' G', Grow p0 H G H' G' → StAt p0 H' G' s' → (∀ p, G' p → some p ≠ p0 ∧ ∃ o, H' p = some o) → Q .non H'
      | _ => False
section
variable {P : Program} {w : World} {K : PySem.W.Frag} {mg : Str → Option Value} {base : Heap} {C : Addr} {cv : String → Addr} {Γ : String → Option MDef} {Gs : String → Option Int} {k : Nat}
theorem fn_x (hw : Wd P w K mg base C Γ Gs k) {N ps : List Str} {qual : Str} {params : Arguments} {body : List Stmt} {scope : Scope} {fa : Addr} {fd : FuncData} {x : Str} {md : MDef} (F : FunD K x qual params body scope [] [] fa fd) (S : FnScope N ps scope) (l1 : ps.length = md.np) (l2 : N.length = md.n)
    (em : embXs N Γ Gs scope md.body body = true) (xc : ∀ c ∈ ["BadMove", "BadSheet"], XcOk K mg cv c) : FnOk P w K mg base (L2.CX P w) (BASE + k + 1) fa fd ps (spEvX K C cv Γ k md) := by
  refine F.ok S (fun vs H Q E h => by rw [l1]; exact h.1) fun cdv A outer s H vs Q E hr h => ?_
  obtain ⟨hl, p0, st, G, ds, sa, gs, rs, hw'⟩ := h
  have g : Gd C Γ Gs k (cxOf (L2.CX P w) P w K mg base N qual scope fa cdv A outer s H E) := ⟨hw, rfl, passes_of rfl, S.nd, hr⟩
  have bd : Bd (cxOf (L2.CX P w) P w K mg base N qual scope fa cdv A outer s H E) := ⟨S.kind, fun _ => rfl⟩
  obtain ⟨t, a, b⟩ := embXs_ok (cv := cv) md.body (X := cxOf (L2.CX P w) P w K mg base N qual scope fa cdv A outer s H E) (Wx := fun cls d _ H => E cls d H) g bd (takes_of rfl rfl rfl rfl) xc em
  refine ⟨t, a, ?_⟩
  have x := stx_start (md.n - md.np) rs sa gs
  have e : L2.start N vs = vs.map some ++ List.replicate (md.n - md.np) none := by
    unfold L2.start
    rw [l2, hl]
  rw [e]
  have : ErrA C cv (cxOf (L2.CX P w) P w K mg base N qual scope fa cdv A outer s H E) (fun cls d _ H => E cls d H) p0 H G = fun c s' => ∀ H' G' (env' : En) (σ' : L2.St), StX K C p0 H G H' G' s' env' σ' → E (.ref (cv c)) none H' := rfl
  refine b p0 H G H G st _ _ _ x (wpSs_mono _ _ _ _ _ _ _ (fun r s' q => ?_) (wpSs_err (fun c s' q => ?_) _ hw'))
  · cases r with
    | nx env' => exact fun H' G' σ' _ x' => (show ∀ H' G', Grow p0 H G H' G' → StAt p0 H' G' s' → (∀ p, G' p → some p ≠ p0 ∧ ∃ o, H' p = some o) → Q .non H' from q) H' G' x'.grow x'.strm x'.gs
    | ret d => exact q.elim
    | brk e => exact q.elim
    | cont e => exact q.elim
  · exact fun H' G' env' σ' x' => q H' G' x'.grow x'.strm x'.gs
end
end Mp

namespace Mp
open PySem PySem.Spec
open PyProof.Rows L2
/-! ### the end of a law that catches -/
/-- what the end names -/
structure TlN where
  value : Str
  due : Str
  kept : Str
  found : Str
  chk : Str
  bad : String
  oth : String
section
variable (n : TlN)
def nmB (x : Str) : Expr → Bool
  | .Name y _ => decide (y = x)
  | _ => false
def isB (c : Str) : Expr → Bool
  | .Call (.Name i _) [a, b] [] _ => decide (i = ("isinstance" : Str)) && (nmB "e" a && nmB c b)
  | _ => false
def ntB (f : Expr → Bool) : Expr → Bool
  | .UnaryOp .Not e _ => f e
  | _ => false
def or4B (f1 f2 f3 f4 : Expr → Bool) : Expr → Bool
  | .BoolOp .Or [a, b, c, d] _ => (f1 a && f2 b) && (f3 c && f4 d)
  | _ => false
def or3B (f1 f2 f3 : Expr → Bool) : Expr → Bool
  | .BoolOp .Or [a, b, c] _ => f1 a && (f2 b && f3 c)
  | _ => false
def rfB : List Stmt → Bool
  | [.Return (some (.Constant (.bool false) _ _)) _] => true
  | _ => false
def ifB (f : Expr → Bool) : Stmt → Bool
  | .If c a [] _ => f c && rfB a
  | _ => false
def cmpB (op : CmpOp) (f g : Expr → Bool) : Expr → Bool
  | .Compare a [o] [b] _ => decide (o = op) && (f a && g b)
  | _ => false
def nonB : Expr → Bool
  | .Constant .none _ _ => true
  | _ => false
def and2B (f g : Expr → Bool) : Expr → Bool
  | .BoolOp .And [a, b] _ => f a && g b
  | _ => false
def or2B (f g : Expr → Bool) : Expr → Bool
  | .BoolOp .Or [a, b] _ => f a && g b
  | _ => false
def retB (f : Expr → Bool) : Stmt → Bool
  | .Return (some e) _ => f e
  | _ => false
def s1B : Stmt → Bool
  | .Assign [.Name y _] e _ => decide (y = n.kept) && nonB e
  | _ => false
def call1B (f x : Str) : Expr → Bool
  | .Call (.Name i _) [a] [] _ => decide (i = f) && nmB x a
  | _ => false
def isl2B : Expr → Bool
  | .Call (.Name i _) [a, b] [] _ => decide (i = ("isinstance" : Str)) && (nmB n.value a && nmB "list" b)
  | _ => false
def asg1B (y : Str) (f : Expr → Bool) : List Stmt → Bool
  | [.Assign [.Name z _] e _] => decide (z = y) && f e
  | _ => false
def s2B : Stmt → Bool
  | .If c a [] _ => isl2B n c && asg1B n.kept (call1B "list" n.value) a
  | _ => false
def suB : List Stmt → Bool
  | [a, b, c] => ifB (or4B (ntB (isB (Str.ofString n.bad))) (ntB (isB "ValueError")) (isB (Str.ofString n.oth)) (isB "ByZero")) a && (ifB (or3B (isB "BadShow") (isB "BadFault") (isB "BadCall")) b && retB (and2B (ntB (nmB n.due)) (or2B (cmpB .Is (nmB n.kept) nonB) (cmpB .Eq (nmB n.kept) (nmB n.value)))) c)
  | _ => false
def s3B : Stmt → Bool
  | .Try body [.ExceptHandler (some te) (some en) su _] [] [] _ => asg1B n.found (call1B n.chk n.value) body && (nmB "TraproomError" te && (decide (en = ("e" : Str)) && suB n su))
  | _ => false
def tailB : List Stmt → Bool
  | [a, b, c, d] => (s1B n a && s2B n b) && (s3B n c && retB (and2B (cmpB .Is (nmB n.found) nonB) (nmB n.due)) d)
  | _ => false
end
theorem nmB_ok {x : Str} {e : Expr} (h : nmB x e = true) : ∃ p, e = .Name x p := by
  unfold nmB at h
  split at h
  · exact ⟨_, by rw [of_decide_eq_true h]⟩
  · cases h
theorem isB_ok {c : Str} {e : Expr} (h : isB c e = true) : ∃ p1 p2 p3 p4, e = .Call (.Name "isinstance" p1) [.Name "e" p2, .Name c p3] [] p4 := by
  unfold isB at h
  split at h
  · simp only [Bool.and_eq_true, decide_eq_true_eq] at h
    obtain ⟨rfl, h1, h2⟩ := h
    obtain ⟨p2, rfl⟩ := nmB_ok h1
    obtain ⟨p3, rfl⟩ := nmB_ok h2
    exact ⟨_, _, _, _, rfl⟩
  · cases h
theorem ntB_ok {f : Expr → Bool} {e : Expr} (h : ntB f e = true) : ∃ a p, e = .UnaryOp .Not a p ∧ f a = true := by
  unfold ntB at h
  split at h
  · exact ⟨_, _, rfl, h⟩
  · cases h
theorem nonB_ok {e : Expr} (h : nonB e = true) : ∃ k p, e = .Constant .none k p := by
  unfold nonB at h
  split at h
  · exact ⟨_, _, rfl⟩
  · cases h
theorem cmpB_ok {op : CmpOp} {f g : Expr → Bool} {e : Expr} (h : cmpB op f g e = true) : ∃ a b p, e = .Compare a [op] [b] p ∧ f a = true ∧ g b = true := by
  unfold cmpB at h
  split at h
  · simp only [Bool.and_eq_true, decide_eq_true_eq] at h
    obtain ⟨rfl, h1, h2⟩ := h
    exact ⟨_, _, _, rfl, h1, h2⟩
  · cases h
theorem and2B_ok {f g : Expr → Bool} {e : Expr} (h : and2B f g e = true) : ∃ a b p, e = .BoolOp .And [a, b] p ∧ f a = true ∧ g b = true := by
  unfold and2B at h
  split at h
  · simp only [Bool.and_eq_true] at h
    exact ⟨_, _, _, rfl, h.1, h.2⟩
  · cases h
theorem or2B_ok {f g : Expr → Bool} {e : Expr} (h : or2B f g e = true) : ∃ a b p, e = .BoolOp .Or [a, b] p ∧ f a = true ∧ g b = true := by
  unfold or2B at h
  split at h
  · simp only [Bool.and_eq_true] at h
    exact ⟨_, _, _, rfl, h.1, h.2⟩
  · cases h
theorem retB_ok {f : Expr → Bool} {s : Stmt} (h : retB f s = true) : ∃ e p, s = .Return (some e) p ∧ f e = true := by
  unfold retB at h
  split at h
  · exact ⟨_, _, rfl, h⟩
  · cases h
theorem rfB_ok {s : List Stmt} (h : rfB s = true) : ∃ k p q, s = [.Return (some (.Constant (.bool false) k p)) q] := by
  unfold rfB at h
  split at h
  · exact ⟨_, _, _, rfl⟩
  · cases h
theorem ifB_ok {f : Expr → Bool} {s : Stmt} (h : ifB f s = true) : ∃ c k p q r, s = .If c [.Return (some (.Constant (.bool false) k p)) q] [] r ∧ f c = true := by
  unfold ifB at h
  split at h
  · simp only [Bool.and_eq_true] at h
    obtain ⟨k, p, q, rfl⟩ := rfB_ok h.2
    exact ⟨_, _, _, _, _, rfl, h.1⟩
  · cases h
theorem or4B_ok {f1 f2 f3 f4 : Expr → Bool} {e : Expr} (h : or4B f1 f2 f3 f4 e = true) : ∃ a b c d p, e = .BoolOp .Or [a, b, c, d] p ∧ f1 a = true ∧ f2 b = true ∧ f3 c = true ∧ f4 d = true := by
  unfold or4B at h
  split at h
  · simp only [Bool.and_eq_true] at h
    exact ⟨_, _, _, _, _, rfl, h.1.1, h.1.2, h.2.1, h.2.2⟩
  · cases h
theorem or3B_ok {f1 f2 f3 : Expr → Bool} {e : Expr} (h : or3B f1 f2 f3 e = true) : ∃ a b c p, e = .BoolOp .Or [a, b, c] p ∧ f1 a = true ∧ f2 b = true ∧ f3 c = true := by
  unfold or3B at h
  split at h
  · simp only [Bool.and_eq_true] at h
    exact ⟨_, _, _, _, rfl, h.1, h.2.1, h.2.2⟩
  · cases h
theorem call1B_ok {f x : Str} {e : Expr} (h : call1B f x e = true) : ∃ p1 p2 p3, e = .Call (.Name f p1) [.Name x p2] [] p3 := by
  unfold call1B at h
  split at h
  · simp only [Bool.and_eq_true, decide_eq_true_eq] at h
    obtain ⟨rfl, h1⟩ := h
    obtain ⟨p2, rfl⟩ := nmB_ok h1
    exact ⟨_, _, _, rfl⟩
  · cases h
theorem asg1B_ok {y : Str} {f : Expr → Bool} {s : List Stmt} (h : asg1B y f s = true) : ∃ e p q, s = [.Assign [.Name y p] e q] ∧ f e = true := by
  unfold asg1B at h
  split at h
  · simp only [Bool.and_eq_true, decide_eq_true_eq] at h
    obtain ⟨rfl, h1⟩ := h
    exact ⟨_, _, _, rfl, h1⟩
  · cases h
/-! ### what is known of the classes -/
structure XcIs (K : PySem.W.Frag) (mg : Str → Option Value) (D : Addr) (x : Str) (b : Bool) : Prop where
  ex : ∃ A : Addr, mg x = some (.ref A) ∧ PySem.W.kitOne K (.ref D) (.ref A) = some b
structure XcT (K : PySem.W.Frag) (mg : Str → Option Value) (D : Addr) (n : TlN) : Prop where
  c : ExcC K D
  bad : XcIs K mg D (Str.ofString n.bad) true
  oth : XcIs K mg D (Str.ofString n.oth) false
  zero : XcIs K mg D "ByZero" false
  show_ : XcIs K mg D "BadShow" false
  fault : XcIs K mg D "BadFault" false
  call : XcIs K mg D "BadCall" false
  ve : PySem.W.kitOne K (.ref D) (.type "ValueError") = some true
  vf : mg "ValueError" = none
  te : ∃ A : Addr, mg "TraproomError" = some (.ref A) ∧ PySem.W.exmOne K (.ref D) (.ref A) = some true
section
variable {X : Cx} {D a : Addr} {oe : Obj} {pn : List (Addr × Obj)}
def tIsE (K : PySem.W.Frag) (D a : Addr) (v : V) : TE := tCB (rIsE K D a) (tCons (tVar 6) (tCons (tC v) tNil))
theorem is_own {x : Str} {b : Bool} (n6 : Nm X 6 "e") (hgi : Gl X "isinstance") (hfi : X.mg "isinstance" = none) (C : ExcC X.K D) (hz : Zc (.ref D) none oe) (hf : ∃ vs, oe.data = .fields vs) (xi : XcIs X.K X.mg D x b) (hg : Gl X x) (hd : (x == ("__debug__" : Str)) = false) {e : Expr} (h : isB x e = true) :
    ∃ A : Addr, PE (X.suite a ((a, oe) :: pn)) e (tIsE X.K D a (.ref A)) ∧ PT (X.suite a ((a, oe) :: pn)) e (tB (tIsE X.K D a (.ref A))) ∧ ∀ (σ : L2.St) (H : Hp) (Q : VK), σ[6]? = some (some (.ref a)) → Q (.bl b) H → tIsE X.K D a (.ref A) σ H Q := by
  obtain ⟨A, h1, h2⟩ := xi.ex
  obtain ⟨p1, p2, p3, p4, rfl⟩ := isB_ok h
  have pe : PE (X.suite a ((a, oe) :: pn)) (.Call (.Name "isinstance" p1) [.Name "e" p2, .Name x p3] [] p4) (tIsE X.K D a (.ref A)) :=
    pe_callB (call_isE C hz hf) hgi hfi (by decide +kernel) (pa_cons (pe_var (X := X.suite a ((a, oe) :: pn)) n6.hN n6.hv n6.hd n6.hcd) (pa_cons (pe_glob (v := .ref A) hg h1 rfl hd) pa_nil))
  refine ⟨A, pe, pt_val pe, fun σ H Q h6 q => ⟨.ref a, h6, ?_⟩⟩
  exact ⟨_, .ref A, b, rfl, fun u r => r, h2, q⟩
theorem is_ve (n6 : Nm X 6 "e") (hgi : Gl X "isinstance") (hfi : X.mg "isinstance" = none) (C : ExcC X.K D) (hz : Zc (.ref D) none oe) (hf : ∃ vs, oe.data = .fields vs) (hv : PySem.W.kitOne X.K (.ref D) (.type "ValueError") = some true) (hfv : X.mg "ValueError" = none) (hg : Gl X "ValueError") {e : Expr} (h : isB "ValueError" e = true) :
    PE (X.suite a ((a, oe) :: pn)) e (tIsE X.K D a (.ty "ValueError")) ∧ PT (X.suite a ((a, oe) :: pn)) e (tB (tIsE X.K D a (.ty "ValueError"))) ∧ ∀ (σ : L2.St) (H : Hp) (Q : VK), σ[6]? = some (some (.ref a)) → Q (.bl true) H → tIsE X.K D a (.ty "ValueError") σ H Q := by
  obtain ⟨p1, p2, p3, p4, rfl⟩ := isB_ok h
  have pe : PE (X.suite a ((a, oe) :: pn)) (.Call (.Name "isinstance" p1) [.Name "e" p2, .Name "ValueError" p3] [] p4) (tIsE X.K D a (.ty "ValueError")) :=
    pe_callB (call_isE C hz hf) hgi hfi (by decide +kernel) (pa_cons (pe_var (X := X.suite a ((a, oe) :: pn)) n6.hN n6.hv n6.hd n6.hcd) (pa_cons (pe_bltn (v := .ty "ValueError") hg hfv (by decide +kernel) rfl) pa_nil))
  refine ⟨pe, pt_val pe, fun σ H Q h6 q => ⟨.ref a, h6, ?_⟩⟩
  exact ⟨_, .type "ValueError", true, rfl, fun u r => r, hv, q⟩
end
/-! ### the except suite -/
/-- two lists of the same items, each a reference or flat -/
def SameL (K : PySem.W.Frag) (H : Hp) (x y : V) : Prop := ∃ l b ws, x = .ref l ∧ y = .ref b ∧ SqL K H l ws ∧ SqL K H b ws ∧ ∀ w ∈ ws, flatB w = true ∨ ∃ c, w = .ref c
theorem paired_self {F : V → V → Prop} : ∀ (ws : List V), (∀ w ∈ ws, F w w) → Paired F ws ws
  | [], _ => .nil
  | w :: ws, h => .cons (h w List.mem_cons_self) (paired_self ws fun x hx => h x (List.mem_cons_of_mem _ hx))
theorem same_eq {K : PySem.W.Frag} {H : Hp} {x y : V} {Q : VK} (h : SameL K H x y) (q : Q (.bl true) H) : rEqV K x y H Q := by
  obtain ⟨l, b, ws, rfl, rfl, h1, h2, h3⟩ := h
  exact ⟨1, by decide, .inl ⟨l, b, ws, ws, rfl, rfl, h1, h2, paired_self ws fun w hw => (h3 w hw).elim (fun f => .inl ⟨rfl, f⟩) fun ⟨c, e⟩ => .inr (.inl ⟨c, e, e⟩)⟩, q⟩
/-- the names that the end reads, as the text has them -/
structure TlX (X : Cx) (n : TlN) : Prop where
  v : Nm X 2 n.value
  d : Nm X 3 n.due
  k : Nm X 4 n.kept
  f : Nm X 5 n.found
  e : Nm X 6 "e"
  lk : Loc X.env.scope n.kept
  lf : Loc X.env.scope n.found
  gi : Gl X "isinstance"
  gl : Gl X "list"
  gt : Gl X "TraproomError"
  gc : Gl X n.chk
  gb : Gl X (Str.ofString n.bad)
  go : Gl X (Str.ofString n.oth)
  gz : Gl X "ByZero"
  gs : Gl X "BadShow"
  gf : Gl X "BadFault"
  ga : Gl X "BadCall"
  gv : Gl X "ValueError"
  db : (Str.ofString n.bad == ("__debug__" : Str)) = false
  dO : (Str.ofString n.oth == ("__debug__" : Str)) = false
  dc : (n.chk == ("__debug__" : Str)) = false
  ke : X.env.kindOf "e" = some .local
theorem Nm.suite {X : Cx} {i : Nat} {x : Str} {a : Addr} {pn : List (Addr × Obj)} (n : Nm X i x) : Nm (X.suite a pn) i x := ⟨n.hN, n.hv, n.hd, n.hcd⟩
section
variable {C : Addr} {Γ : String → Option MDef} {Gs : String → Option Int} {k : Nat} {X : Cx} {D : Addr} {n : TlN}
/-- the suite, for an error of the class at D -/
theorem suite_ok (g : Gd C Γ Gs k X) (tl : TlX X n) (xt : XcT X.K X.mg D n) (hu : X.A.units + 64 < cLine) {su : List Stmt} (h : suB n su = true) : ∃ b0 bs, su = b0 :: bs ∧ ∃ ts : Addr → Value → Option Addr → TS,
    (∀ (a : Addr) (oe : Obj) (cls : Value) (d : Option Addr) (pn : List (Addr × Obj)), Zc cls d oe → (∃ vs, oe.data = .fields vs) → PSs (X.suite a ((a, oe) :: pn)) (b0 :: bs) (ts a cls d)) ∧
      ∀ (a : Addr) (σ : L2.St) (H : Hp) (Q : Ends) (kv vv : V), σ[2]? = some (some vv) → σ[3]? = some (some (.bl false)) → σ[4]? = some (some kv) → σ[6]? = some (some (.ref a)) → (kv = .non ∨ SameL X.K H kv vv) → Q.rt (.bl true) H → ts a (.ref D) none Q σ H := by
  unfold suB at h
  split at h
  · rename_i sa sb sc
    simp only [Bool.and_eq_true] at h
    obtain ⟨h1, h2, h3⟩ := h
    obtain ⟨c1, k1, q1, q2, q3, rfl, f1⟩ := ifB_ok h1
    obtain ⟨c2, k2, q4, q5, q6, rfl, f2⟩ := ifB_ok h2
    obtain ⟨e3, q7, rfl, f3⟩ := retB_ok h3
    obtain ⟨a1, a2, a3, a4, p1, rfl, i1, i2, i3, i4⟩ := or4B_ok f1
    obtain ⟨b1, b2, b3, p2, rfl, j1, j2, j3⟩ := or3B_ok f2
    obtain ⟨n1, n2, p3, rfl, l1, l2⟩ := and2B_ok f3
    obtain ⟨a1', r1, rfl, i1⟩ := ntB_ok i1
    obtain ⟨a2', r2, rfl, i2⟩ := ntB_ok i2
    obtain ⟨n1', r3, rfl, l1⟩ := ntB_ok l1
    obtain ⟨r4, rfl⟩ := nmB_ok l1
    obtain ⟨o1, o2, p4, rfl, m1, m2⟩ := or2B_ok l2
    obtain ⟨u1, u2, p5, rfl, m1, m3⟩ := cmpB_ok m1
    obtain ⟨r5, rfl⟩ := nmB_ok m1
    obtain ⟨k3, r6, rfl⟩ := nonB_ok m3
    obtain ⟨w1, w2, p6, rfl, m2, m4⟩ := cmpB_ok m2
    obtain ⟨r7, rfl⟩ := nmB_ok m2
    obtain ⟨r8, rfl⟩ := nmB_ok m4
    have fi : X.mg "isinstance" = none := g.wd.free _ (by decide)
    refine ⟨_, _, rfl, fun a cls d Q σ H => (cls = .ref D ∧ d = none) ∧ ∃ A1 A2 A3 A4 A5 A6 : Addr,
      ((∃ p1 p2 p3 p4, a1' = .Call (.Name "isinstance" p1) [.Name "e" p2, .Name (Str.ofString n.bad) p3] [] p4) ∧ X.mg (Str.ofString n.bad) = some (.ref A1)) ∧ X.mg (Str.ofString n.oth) = some (.ref A2) ∧ X.mg "ByZero" = some (.ref A3) ∧ X.mg "BadShow" = some (.ref A4) ∧ X.mg "BadFault" = some (.ref A5) ∧ X.mg "BadCall" = some (.ref A6) ∧
      tSeq (tIfS (tOr (tNot (tB (tIsE X.K D a (.ref A1)))) (tOr (tNot (tB (tIsE X.K D a (.ty "ValueError")))) (tOr (tB (tIsE X.K D a (.ref A2))) (tB (tIsE X.K D a (.ref A3)))))) (tRet (tC (.bl false))) tNext)
        (tSeq (tIfS (tOr (tB (tIsE X.K D a (.ref A4))) (tOr (tB (tIsE X.K D a (.ref A5))) (tB (tIsE X.K D a (.ref A6))))) (tRet (tC (.bl false))) tNext)
          (tRet (tAndV (tNotT X.K (tVar 3)) (tOrV (tOp (fun x y H Q => y = .non ∧ Q (.bl (decide (x = .non))) H) (tVar 4) (tC .non)) (tOp (rEqV X.K) (tVar 4) (tVar 2)))))) Q σ H, ?_, ?_⟩
    · intro a oe cls d pn hz hf
      refine ⟨fun pins s σ H Q I h => ?_⟩
      obtain ⟨⟨rfl, rfl⟩, A1, A2, A3, A4, A5, A6, ⟨_, g1⟩, g2, g3, g4, g5, g6, h⟩ := h
      have own : ∀ {x : Str} {b : Bool} {A : Addr} {e : Expr}, XcIs X.K X.mg D x b → Gl X x → (x == ("__debug__" : Str)) = false → X.mg x = some (.ref A) → isB x e = true → PT (X.suite a ((a, oe) :: pn)) e (tB (tIsE X.K D a (.ref A))) := by
        intro x b A e xi hg hd hm he
        obtain ⟨p1, p2, p3, p4, rfl⟩ := isB_ok he
        exact pt_val (pe_callB (call_isE xt.c hz hf) tl.gi fi (by decide +kernel) (pa_cons (pe_var (X := X.suite a ((a, oe) :: pn)) tl.e.hN tl.e.hv tl.e.hd tl.e.hcd) (pa_cons (pe_glob (v := .ref A) hg hm rfl hd) pa_nil)))
      have ve := (is_ve (a := a) (pn := pn) tl.e tl.gi fi xt.c hz hf xt.ve xt.vf tl.gv i2).2.1
      refine (pss_cons (ps_if (PW.pt (pw_or (pt_not (own xt.bad tl.gb tl.db g1 i1)) (pw_or (pt_not ve) (pw_or (own xt.oth tl.go tl.dO g2 i3) (pw_or1 (own xt.zero tl.gz (by decide) g3 i4)))))) (pss_one (ps_ret pe_bl)) pss_nil)
        (pss_cons (ps_if (PW.pt (pw_or (own xt.show_ tl.gs (by decide) g4 j1) (pw_or (own xt.fault tl.gf (by decide) g5 j2) (pw_or1 (own xt.call tl.ga (by decide) g6 j3))))) (pss_one (ps_ret pe_bl)) pss_nil)
          (pss_one (ps_ret (pe_and (pe_notT (pe_var (X := X.suite a ((a, oe) :: pn)) tl.d.hN tl.d.hv tl.d.hd tl.d.hcd)) (pe_one (pe_or (pe_cmpR op_isN (pe_var (X := X.suite a ((a, oe) :: pn)) tl.k.hN tl.k.hv tl.k.hd tl.k.hcd) pe_non (by rfl)) (pe_one (pe_cmpR (op_eqV hu) (pe_var (X := X.suite a ((a, oe) :: pn)) tl.k.hN tl.k.hv tl.k.hd tl.k.hcd) (pe_var (X := X.suite a ((a, oe) :: pn)) tl.v.hN tl.v.hv tl.v.hd tl.v.hcd) (by rfl)))))))))).run pins s σ H Q I h
    · intro a σ H Q kv vv s2 s3 s4 s6 hk hq
      obtain ⟨A1, g1, t1⟩ := xt.bad.ex
      obtain ⟨A2, g2, t2⟩ := xt.oth.ex
      obtain ⟨A3, g3, t3⟩ := xt.zero.ex
      obtain ⟨A4, g4, t4⟩ := xt.show_.ex
      obtain ⟨A5, g5, t5⟩ := xt.fault.ex
      obtain ⟨A6, g6, t6⟩ := xt.call.ex
      have own : ∀ {A : Addr} {b : Bool} {H : Hp} {Q : Bool → Hp → Prop}, PySem.W.kitOne X.K (.ref D) (.ref A) = some b → Q b H → tB (tIsE X.K D a (.ref A)) σ H Q := fun {A b H Q} h q => ⟨.ref a, s6, _, .ref A, b, rfl, fun u r => r, h, b, rfl, q⟩
      refine ⟨⟨rfl, rfl⟩, A1, A2, A3, A4, A5, A6, ⟨isB_ok i1, g1⟩, g2, g3, g4, g5, g6, ?_⟩
      show tOr _ _ σ H _
      refine own t1 ?_
      refine ite2 (fun z => by cases z) fun _ => ?_
      show tB _ σ H _
      refine ⟨.ref a, s6, _, .type "ValueError", true, rfl, fun u r => r, xt.ve, true, rfl, ?_⟩
      refine ite2 (fun z => by cases z) fun _ => ?_
      refine own t2 ?_
      refine ite2 (fun z => by cases z) fun _ => ?_
      refine own t3 ?_
      refine ite2 (fun z => by cases z) fun _ => ?_
      unfold tNext tSeq tIfS tOr
      refine own t4 ?_
      refine ite2 (fun z => by cases z) fun _ => ?_
      refine own t5 ?_
      refine ite2 (fun z => by cases z) fun _ => ?_
      refine own t6 ?_
      refine ite2 (fun z => by cases z) fun _ => ?_
      refine ⟨.bl false, s3, false, rfl, true, rfl, ?_⟩
      refine ite2 (fun _ => ?_) fun z => absurd rfl z
      refine ⟨kv, s4, rfl, decide (kv = .non), rfl, ?_⟩
      rcases hk with rfl | hk
      · exact ite2 (fun _ => hq) fun z => absurd rfl z
      · refine ite2 (fun z => ?_) fun _ => ⟨kv, s4, vv, s2, same_eq hk hq⟩
        obtain ⟨l, b, ws, rfl, _⟩ := hk
        cases of_decide_eq_true z
  · cases h
end
end Mp

namespace Mp
open PySem PySem.Spec
open PyProof.Rows L2
section
variable {C : Addr} {Γ : String → Option MDef} {Gs : String → Option Int} {k : Nat} {X : Cx} {n : TlN} {cv : String → Addr}
theorem asg_in {y : Str} {e : Expr} {p q : Pos} : True := trivial
theorem elem_ok {K : PySem.W.Frag} {p0 : Option Addr} {H : Hp} {G : GS} : ∀ {ds : List D} {ws : List V} {f : List Addr}, Reps K C p0 H G ds ws f → ∀ w ∈ ws, flatB w = true ∨ ∃ c, w = .ref c
  | [], ws, f, r, w, hw => by
    obtain ⟨rfl, _⟩ := Reps.nil_iff.mp r
    cases hw
  | d :: ds, ws, f, r, w, hw => by
    obtain ⟨v, r', f1, g1, rfl, _, a, b⟩ := Reps.cons_iff.mp r
    rcases List.mem_cons.mp hw with rfl | hw
    · cases d with
      | non => rw [non_of a]; exact .inl rfl
      | bl b => rw [bl_of a]; exact .inl rfl
      | int i => rw [int_of a]; exact .inl rfl
      | str i => rw [str_of a]; exact .inl rfl
      | rat q => obtain ⟨p, rfl, _⟩ := rat_of a; exact .inr ⟨p, rfl⟩
      | tup ds => obtain ⟨p, vs, rfl, _⟩ := tup_of a; exact .inr ⟨p, rfl⟩
      | lst o ds => obtain ⟨p, vs, f, rfl, _⟩ := lst_of a; exact .inr ⟨p, rfl⟩
      | strm => rw [Rep] at a; obtain ⟨p, _, rfl, _⟩ := a; exact .inr ⟨p, rfl⟩
      | scr ns => rw [Rep] at a; obtain ⟨⟨p, rfl, _⟩, _⟩ := a; exact .inr ⟨p, rfl⟩
    · exact elem_ok b w hw
theorem tail_ok (g : Gd C Γ Gs (k + 1) X) (bd : Bd X) (tl : TlX X n) (xt : XcT X.K X.mg (cv n.bad) n) (hs : X.stack = X.env :: X.outer) (hf : X.env.frame = some X.env.locals) {md : MDef} {fa : Addr} {fd : FuncData} {ps : List Str}
    (Fc : FnOk X.prog X.w X.K X.mg X.base (L2.CX X.prog X.w) (BASE + k + 1) fa fd ps (spEvX X.K C cv Γ k md)) (hm : X.mg n.chk = some (.ref fa)) (hkp : PySem.W.keepIn X.K (.ref fa) = true) (hb : Binds X.K fd ps []) (np : md.np = 1) {es : List Stmt} (h : tailB n es = true) :
    ∃ t, PSs X es t ∧ ∀ (p0 : Option Addr) (H0 : Hp) (G0 : GS) (H : Hp) (G : GS) (s : Strm) (σ : L2.St) (Q : Ends) (ns : List Int) (dv : D) (due : Bool), StX X.K C p0 H0 G0 H G s [some (.scr ns), some .strm, some dv, some (.bl due), none, none, none] σ → dv.noOwn = true →
      (∃ b, isD dv .list = pure b) → wpSs (callF Γ k) (fun c _ => c = n.bad ∧ due = false) md.body (some dv :: List.replicate (md.n - 1) none) s (fun r _ => match r with | .nx _ => due = true | _ => False) → (∀ H', Q.rt (.bl true) H') → t Q σ H := by
  unfold tailB at h
  split at h
  · rename_i sa sb sc sd
    simp only [Bool.and_eq_true] at h
    obtain ⟨⟨h1, h2⟩, h3, h4⟩ := h
    unfold s1B at h1
    split at h1
    · rename_i y py e1 q1
      simp only [Bool.and_eq_true, decide_eq_true_eq] at h1
      obtain ⟨rfl, h1b⟩ := h1
      obtain ⟨j1, r1, rfl⟩ := nonB_ok h1b
      unfold s2B at h2
      split at h2
      · rename_i c2 a2 q2
        simp only [Bool.and_eq_true] at h2
        obtain ⟨h2, h2b⟩ := h2
        obtain ⟨e2, r2, q3, rfl, h2d⟩ := asg1B_ok h2b
        obtain ⟨r3, r4, r5, rfl⟩ := call1B_ok h2d
        unfold isl2B at h2
        split at h2
        · rename_i i2 r6 a3 b3 r7
          simp only [Bool.and_eq_true, decide_eq_true_eq] at h2
          obtain ⟨rfl, h2e, h2c⟩ := h2
          obtain ⟨r8, rfl⟩ := nmB_ok h2e
          obtain ⟨r9, rfl⟩ := nmB_ok h2c
          unfold s3B at h3
          split at h3
          · rename_i body te en su q4 q5
            simp only [Bool.and_eq_true, decide_eq_true_eq] at h3
            obtain ⟨h3, h3b, rfl, h3c⟩ := h3
            obtain ⟨e3, r10, q6, rfl, h3d⟩ := asg1B_ok h3
            obtain ⟨r11, r12, r13, rfl⟩ := call1B_ok h3d
            obtain ⟨r14, rfl⟩ := nmB_ok h3b
            have hu : X.A.units + 64 < cLine := g.room.units
            obtain ⟨b0, bs, rfl, ts, t1, t2⟩ := suite_ok (D := cv n.bad) g tl xt hu h3c
            obtain ⟨e4, q7, rfl, h4d⟩ := retB_ok h4
            obtain ⟨e5, e6, q8, rfl, h4e, h4b⟩ := and2B_ok h4d
            obtain ⟨r15, rfl⟩ := nmB_ok h4b
            obtain ⟨e7, e8, q9, rfl, h4f, h4c⟩ := cmpB_ok h4e
            obtain ⟨r16, rfl⟩ := nmB_ok h4f
            obtain ⟨j2, r17, rfl⟩ := nonB_ok h4c
            have fi : X.mg "isinstance" = none := g.wd.free _ (by decide)
            have fl : X.mg "list" = none := g.wd.free _ (by decide)
            obtain ⟨TE, gT, hT⟩ := xt.te
            refine ⟨_, pss_cons (ps_set (i := 4) g.nd tl.k.hN tl.lk pe_non rfl (.inl (bd.fn _)))
              (pss_cons (ps_if (pt_val (pe_callB call_isi tl.gi fi (by decide +kernel) (pa_cons tl.v.pe (pa_cons (pe_bltn (v := .ty "list") tl.gl fl (by decide +kernel) rfl) pa_nil)))) (pss_one (ps_set (i := 4) g.nd tl.k.hN tl.lk (bi_pe g .list tl.gl (pa_cons tl.v.pe pa_nil) rfl rfl) rfl (.inl (bd.fn _)))) pss_nil)
              (pss_cons (ps_try_as (i := 6) (tb := fun W => tAsg (tCallS (spEvX X.K C cv Γ k md) (WE W) (tCons (tVar 2) tNil)) (gName 5)) (ts := ts) (Wout := fun _ _ _ _ => False) hs hf g.nd tl.e.hN tl.ke ⟨tl.gt, by decide, .inl gT⟩ takes0
                  (fun W pn xe tk po => pss_one (ps_set (X := X.tr pn xe) (i := 5) g.nd tl.f.hN tl.lf (pe_callS (X := X.tr pn xe) Fc g.room tl.gc hm hkp hb (fun σ => passAt tk σ) (pa_cons (pe_var (X := X.tr pn xe) tl.v.hN tl.v.hv tl.v.hd tl.v.hcd) pa_nil) tl.dc) rfl (.inl (bd.fn _)))) t1)
                (pss_one (ps_ret (pe_and (pe_cmpR op_isN tl.f.pe pe_non (by rfl)) (pe_one tl.d.pe)))))), ?_⟩
            intro p0 H0 G0 H G s σ Q ns dv due x no isl hw hQ
            obtain ⟨fp, e0, nfp, _⟩ := x.env
            obtain ⟨v0, l0, f0, g0, rfl, _, _, e1⟩ := RepE.some_iff.mp e0
            obtain ⟨v1, l1, f1, g1, rfl, _, _, e2⟩ := RepE.some_iff.mp e1
            obtain ⟨v2, l2, f2, g2, rfl, _, rv, e3⟩ := RepE.some_iff.mp e2
            obtain ⟨v3, l3, f3, g3, rfl, _, rd, e4⟩ := RepE.some_iff.mp e3
            obtain ⟨o4, l4, rfl, e5⟩ := RepE.none_iff.mp e4
            obtain ⟨o5, l5, rfl, e6⟩ := RepE.none_iff.mp e5
            obtain ⟨o6, l6, rfl, e7⟩ := RepE.none_iff.mp e6
            obtain ⟨rfl, _⟩ := RepE.nil_iff.mp e7
            cases bl_of rd
            have f20 : f2 = [] := rv.noOwn no
            subst f20
            have isl' : ∃ b, W (isD dv .list) s fun b' s' => b' = b := by
              obtain ⟨b, e⟩ := isl
              exact ⟨b, by rw [e]; exact rfl⟩
            obtain ⟨b, isl'⟩ := isl'
            obtain ⟨ty, u, bb, u1, u2, u3, ebb⟩ := is_sem g .list rv isl'
            -- the rest, behind the two lines that keep the value
            have rest : ∀ (H2 : Hp) (kv : V), Ex H H2 → (kv = .non ∨ ∀ H3, (∀ p o, some p ≠ p0 → H2 p = some o → H3 p = some o) → SameL X.K H3 kv v2) →
                (tSeq (fun D σ H => tAsg (tCallS (spEvX X.K C cv Γ k md) (WE (wAs X.K (.ref TE) 6 ts (fun _ _ _ _ => False) D)) (tCons (tVar 2) tNil)) (gName 5) D σ H) (tRet (tAndV (tOp (fun x y H Q => y = .non ∧ Q (.bl (decide (x = .non))) H) (tVar 5) (tC .non)) (tVar 3)))) Q [some v0, some v1, some v2, some (.bl due), some kv, o5, o6] H2 := by
              intro H2 kv ex hk
              have gr := grow_ex (p0 := p0) (G := G) ex
              have x2 := x.ex' ex
              refine ⟨v2, rfl, ?_⟩
              unfold tNil
              dsimp only
              unfold spEvX
              refine ⟨by rw [np]; rfl, p0, s, G, [dv], x2.strm, x2.gs, (Reps.cons (rv.grow x.pl gr) Reps.nil : Reps X.K C p0 H2 G [dv] [v2] ([] ++ [])), ?_⟩
              rw [np]
              refine wpSs_mono _ _ _ _ _ _ _ (fun r s' q => ?_) (wpSs_err (fun c s' q => ?_) _ hw)
              · cases r with
                | nx e =>
                  have q : due = true := q
                  subst q
                  intro H' G' _ _ _
                  show (tAndV (tOp (fun x y H Q => y = .non ∧ Q (.bl (decide (x = .non))) H) (tVar 5) (tC .non)) (tVar 3)) _ _ _
                  refine ⟨.non, rfl, rfl, true, rfl, ?_⟩
                  refine ite2 (fun _ => ⟨.bl true, rfl, hQ H'⟩) fun z => absurd rfl z
                | ret d => exact q.elim
                | brk e => exact q.elim
                | cont e => exact q.elim
              · obtain ⟨rfl, rfl⟩ := q
                intro H' G' gr' _ _
                refine ⟨true, hT, fun _ a ha => ?_, fun z => by cases z⟩
                refine t2 a _ H' _ kv v2 rfl rfl rfl rfl ?_ (hQ H')
                exact hk.imp id fun z => z H' fun p o np e => gr'.keep p o np e
            show (tSeq (tIfS (tB (tCB (rIsi X.K) (tCons (tVar 2) (tCons (tC (.ty "list")) tNil)))) (tAsg (tCB (rBi X.K .list) (tCons (tVar 2) tNil)) (gName 4)) tNext) _) Q [some v0, some v1, some v2, some (.bl due), some .non, o5, o6] H
            refine ⟨v2, rfl, v2, _, ty, u, bb, rfl, u1, u2, u3, bb, rfl, ?_⟩
            have fin0 := rest H .non Ex.rfl' (.inl rfl)
            cases bb with
            | false => exact ite2 (fun z => by cases z) fun _ => fin0
            | true =>
              refine ite2 (fun _ => ?_) fun z => absurd rfl z
              refine ⟨v2, rfl, ?_⟩
              have lv : ∃ o ds, dv = .lst o ds := by
                subst ebb
                cases dv <;> first | exact ⟨_, _, rfl⟩ | exact (Bool.noConfusion (show false = true from isl')) | exact (show False from isl').elim
              obtain ⟨o, ds, rfl⟩ := lv
              obtain ⟨p1, ws, f', rfl, e1, np1, r2, _⟩ := lst_of rv
              refine ⟨p1, ws, rfl, .inl (SqL.of e1), fun l hl => ?_⟩
              refine rest (upd H l (.lst ws)) (.ref l) (ex_upd hl) (.inr fun H3 keep => ?_)
              refine ⟨l, p1, ws, rfl, rfl, SqL.of (keep l _ (ne_p0 x.pl hl) upd_same), SqL.of (keep p1 _ np1 (ex_upd hl _ _ e1)), elem_ok r2⟩
          · cases h3
        · cases h2
      · cases h2
    · cases h1
  · cases h
/-- a slot's list lent -/
theorem StX.frz {K : PySem.W.Frag} {p0 : Option Addr} {H0 H : Hp} {G0 G : GS} {s : Strm} {env : En} {σ : L2.St} {i : Nat} {d : D} (x : StX K C p0 H0 G0 H G s env σ) (e : env[i]? = some (some d)) : ∃ G', StX K C p0 H0 G0 H G' s (setE env i d.strip) σ ∧ Evo p0 H G H G' := by
  obtain ⟨fp, re, n, b⟩ := x.env
  obtain ⟨v, f, e1, r, e3, e4, _, h2, _⟩ := re.repl n e
  obtain ⟨fq, q1, q2, q3⟩ := h2 d.strip (fun a => G a ∨ a ∈ f) [] (fun a z => .inl z) (fun a ha hf z => z.elim (fun z => (re.mem a ha).1 z) hf) (r.lend (fun _ z => .inl z) fun a ha => .inr ha) .nil (by simp)
  refine ⟨fun a => G a ∨ a ∈ f, ⟨⟨x.grow.keep, fun p z => .inl (x.grow.gs p z), fun p o np z h => z.elim (fun z => x.grow.new p o np z h) fun z => absurd ((b p (e3 p z)).symm.trans h) (by simp), x.grow.hd⟩, fun p hp => ?_, fun p hp => ?_, fq, q1, q2, fun y hy => ?_⟩, ⟨fun _ _ _ h _ => h, fun _ h => .inl h⟩⟩
  · obtain ⟨pc, a1, a2, a3, a4, a5⟩ := x.strm p hp
    exact ⟨pc, a1, a2, a3, .inl a4, a5⟩
  · rcases hp with hp | hp
    · exact x.gs p hp
    · obtain ⟨_, a, xs, b⟩ := re.mem p (e3 p hp)
      exact ⟨a, _, b⟩
  · rcases q3 y hy with z | z
    · cases z
    · exact b y z.1
/-- what stands behind a block that ends by its end -/
def PostN (C : Addr) (X : Cx) (p0 : Option Addr) (H0 : Hp) (G0 : GS) (H : Hp) (G : GS) (R : En → Strm → Hp → L2.St → Prop) : Fl → Strm → Prop
  | .nx env', s' => ∀ H' G' σ', Evo p0 H G H' G' → StX X.K C p0 H0 G0 H' G' s' env' σ' → R env' s' H' σ'
  | _, _ => False
theorem pre_ok {k : Nat} {u : TS} : ∀ (m : MSs) {es es2 : List Stmt} {X : Cx}, Gd C Γ Gs k X → Bd X → embSs X.N Γ Gs X.env.scope m es = true → PSs X es2 u → ∃ t, PSs X (es ++ es2) t ∧ ∀ (p0 : Option Addr) (H0 : Hp) (G0 : GS) (H : Hp) (G : GS) (s : Strm) (env : En) (σ : L2.St) (Q : Ends), StX X.K C p0 H0 G0 H G s env σ →
    W (runs (callF Γ k) env m) s (PostN C X p0 H0 G0 H G fun _ _ H' σ' => u Q σ' H') → t Q σ H
  | .nil, es, es2, X, g, bd, h, hu => by
    cases es with
    | nil =>
      refine ⟨u, hu, fun p0 H0 G0 H G s env σ Q x w => ?_⟩
      rw [runs] at w
      exact (show PostN C X p0 H0 G0 H G (fun _ _ H' σ' => u Q σ' H') (.nx env) s from w) H G σ Grow.rfl'.evo x
    | cons e es => unfold embSs at h; cases h
  | .cons m ms, es, es2, X, g, bd, h, hu => by
    unfold embSs at h
    split at h
    · cases ‹MSs.cons m ms = MSs.nil›
    · cases ‹MSs.cons m ms = _›
      obtain ⟨t, a, b⟩ := pre_ok ms g bd h hu
      refine ⟨t, a, fun p0 H0 G0 H G s env σ Q x w => ?_⟩
      rw [runs] at w
      have w := W_bind.mp w
      rw [run] at w
      obtain ⟨d, e, q⟩ := getE_sem (W_bind.mp w)
      obtain ⟨G', x', ev'⟩ := x.frz e
      refine b p0 H0 G0 H G' s _ σ Q x' (W_mono (show W (runs (callF Γ k) (setE env _ d.strip) ms) s (PostN C X p0 H0 G0 H G fun _ _ H' σ' => u Q σ' H') from q) fun r s2 q => ?_)
      cases r with
      | nx e => exact fun H' G2 σ' e' x2 => q H' G2 σ' (ev'.trans e') x2
      | brk e => exact q
      | cont e => exact q
      | ret e => exact q
    · cases ‹MSs.cons m ms = _›
      obtain ⟨t, a, b⟩ := pre_ok ms g bd h hu
      refine ⟨t, a, fun p0 H0 G0 H G s env σ Q x w => ?_⟩
      rw [runs] at w
      have w := W_bind.mp w
      rw [run] at w
      exact b p0 H0 G0 H G s _ σ Q (x.kill _) w
    · cases ‹MSs.cons m ms = _›
      simp only [Bool.and_eq_true] at h
      obtain ⟨t1, a1, b1⟩ := embS_ok m g bd h.1
      obtain ⟨t2, a2, b2⟩ := pre_ok ms g bd h.2 hu
      refine ⟨_, pss_cons a1 a2, fun p0 H0 G0 H G s env σ Q x w => ?_⟩
      rw [runs] at w
      refine b1 p0 H0 G0 H G s env σ _ x (W_mono (W_bind.mp w) fun r s1 q => ?_)
      cases r with
      | nx e2 => exact fun H' G' σ' e' x' => b2 p0 H0 G0 H' G' s1 e2 σ' Q x' (W_mono q fun r s2 q => by
          cases r with
          | nx e => exact fun H2 G2 σ2 e2 x2 => q H2 G2 σ2 (e'.trans e2) x2
          | brk e => exact q
          | cont e => exact q
          | ret e => exact q)
      | brk e2 => exact (show False from q).elim
      | cont e2 => exact (show False from q).elim
      | ret d => exact (show False from q).elim
    · cases h
end
/-- the text of the end, its names looked at -/
def tlC (N : List Str) (sc : Scope) (n : TlN) : Bool :=
  (((nmC N sc 2 n.value && nmC N sc 3 n.due) && (nmC N sc 4 n.kept && nmC N sc 5 n.found)) && ((nmC N sc 6 "e" && decide (sc.names.lookup ("e" : Str) = some .local)) && (locC sc n.kept && locC sc n.found))) &&
  (((["isinstance", "list", "TraproomError", n.chk, Str.ofString n.bad, Str.ofString n.oth, "ByZero", "BadShow", "BadFault", "BadCall", "ValueError"] : List Str).all fun x => glC sc x) && (!(Str.ofString n.bad == ("__debug__" : Str)) && (!(Str.ofString n.oth == ("__debug__" : Str)) && !(n.chk == ("__debug__" : Str)))))
theorem tlC_ok {X : Cx} {n : TlN} (h : tlC X.N X.env.scope n = true) (hk : ∀ x, X.env.scope.names.lookup x = some .local → X.env.kindOf x = some .local) : TlX X n := by
  unfold tlC at h
  simp only [Bool.and_eq_true, decide_eq_true_eq, List.all_cons, List.all_nil, Bool.not_eq_true'] at h
  obtain ⟨⟨⟨⟨h1, h2⟩, h3, h4⟩, ⟨h5, h6⟩, h7, h8⟩, ⟨g1, g2, g3, g4, g5, g6, g7, g8, g9, g10, g11, _⟩, d1, d2, d3⟩ := h
  exact { v := nm_by h1, d := nm_by h2, k := nm_by h3, f := nm_by h4, e := nm_by h5, lk := loc_by h7, lf := loc_by h8, gi := gl_by g1, gl := gl_by g2, gt := gl_by g3, gc := gl_by g4, gb := gl_by g5, go := gl_by g6, gz := gl_by g7, gs := gl_by g8, gf := gl_by g9, ga := gl_by g10, gv := gl_by g11, db := d1, dO := d2, dc := d3, ke := hk _ h6 }
/-- the law, by values -/
def LawOk2 (Γ : String → Option MDef) (k : Nat) (pre : MSs) (md : MDef) (bad : String) : Prop := ∀ ns : List Int, ns.length ≤ 63 → ∃ d st, callF Γ (k + 1) "_law_stream" [.scr ns] ⟨[], 0, 0, 0⟩ = .ok d ⟨[], 0, 0, 0⟩ ∧ strmD d = some st ∧ st.cells.length ≤ LIM ∧
  W (runs (callF Γ (k + 1)) (some (.scr ns) :: some .strm :: List.replicate 5 none) pre) st fun r s' => match r with
    | .nx e => ∃ dv due, e = [some (.scr ns), some .strm, some dv, some (.bl due), none, none, none] ∧ dv.noOwn = true ∧ (∃ b, isD dv .list = pure b) ∧
        wpSs (callF Γ k) (fun c _ => c = bad ∧ due = false) md.body (some dv :: List.replicate (md.n - 1) none) s' (fun r _ => match r with | .nx _ => due = true | _ => False)
    | _ => False
section
variable {P : Program} {w : World} {K : PySem.W.Frag} {mg : Str → Option Value} {base : Heap} {C : Addr} {cv : String → Addr} {Γ : String → Option MDef} {Gs : String → Option Int} {k : Nat}
theorem law_fn2 (hw : Wd P w K mg base C Γ Gs k) (hw1 : Wd P w K mg base C Γ Gs (k + 1)) {n : TlN} {N : List Str} {params : Arguments} {body es1 es2 : List Stmt} {scope : Scope} {fa : Addr} {fd : FuncData} {pre : MSs} (F : FunD K "law" "law" params body scope [] [] fa fd) (S : FnScope N ["_law_script"] scope) (hn : N.length = 7) (hbody : body = es1 ++ es2)
    (em : embSs N Γ Gs scope (.cons (.asg (.nm 1) (.call "_law_stream" (.cons (.var 0) .nil))) pre) es1 = true) (te : tailB n es2 = true) (tc : tlC N scope n = true) (xt : XcT K mg (cv n.bad) n) (xc : ∀ c ∈ ["BadMove", "BadSheet"], XcOk K mg cv c)
    {md : MDef} {N2 ps2 : List Str} {params2 : Arguments} {body2 : List Stmt} {scope2 : Scope} {fa2 : Addr} {fd2 : FuncData} {x2 : Str} (F2 : FunD K x2 x2 params2 body2 scope2 [] [] fa2 fd2) (S2 : FnScope N2 ps2 scope2) (l1 : ps2.length = md.np) (l2 : N2.length = md.n) (np : md.np = 1) (em2 : embXs N2 Γ Gs scope2 md.body body2 = true)
    (hm : mg n.chk = some (.ref fa2)) (hb : Binds K fd2 ps2 []) (hl : LawOk2 Γ k pre md n.bad) : FnOk P w K mg base CX0 (BASE + (k + 1) + 1) fa fd ["_law_script"] (spLaw K) := by
  subst hbody
  refine F.ok S (fun vs H Q E h => ?_) fun cdv A outer s H vs Q E hr h => ?_
  · obtain ⟨a, ns, rfl, _⟩ := h; rfl
  obtain ⟨a, ns, rfl, hlen, hscr, hQ⟩ := h
  have g : Gd C Γ Gs (k + 1) (cxOf CX0 P w K mg base N "law" scope fa cdv A outer s H E).nox := ⟨hw1, rfl, PassesOwn.never, S.nd, hr⟩
  have bd : Bd (cxOf CX0 P w K mg base N "law" scope fa cdv A outer s H E).nox := ⟨S.kind, fun _ => rfl⟩
  have tl : TlX (cxOf CX0 P w K mg base N "law" scope fa cdv A outer s H E).nox n := tlC_ok tc fun x h => h
  have Fc := fn_x (cv := cv) hw F2 S2 l1 l2 em2 xc
  obtain ⟨tt, ta, tb⟩ := tail_ok (X := (cxOf CX0 P w K mg base N "law" scope fa cdv A outer s H E).nox) g bd tl xt rfl rfl Fc hm F2.kp hb np te
  cases es1 with
  | nil => unfold embSs at em; cases em
  | cons e1 es =>
    unfold embSs at em
    simp only [Bool.and_eq_true] at em
    obtain ⟨t1, a1, b1⟩ := embS_ok _ (X := (cxOf CX0 P w K mg base N "law" scope fa cdv A outer s H E).nox) g bd em.1
    obtain ⟨t2, a2, b2⟩ := pre_ok pre (X := (cxOf CX0 P w K mg base N "law" scope fa cdv A outer s H E).nox) g bd em.2 ta
    refine ⟨_, PSs.nox (pss_cons a1 a2), ?_⟩
    obtain ⟨d, st, h1, h2, h3, h4⟩ := hl ns hlen
    have r0 : Rep K C none H (fun _ => False) (.scr ns) (.ref a) [] := by rw [Rep]; exact ⟨⟨a, rfl, hscr⟩, rfl⟩
    have x0 := stx_start (s := ⟨[], 0, 0, 0⟩) 6 (Reps.cons r0 Reps.nil) (fun p hp => by cases hp) (fun p hp => hp.elim)
    have e0 : L2.start N [V.ref a] = some (.ref a) :: List.replicate 6 none := by
      unfold L2.start
      rw [hn]; rfl
    rw [e0]
    refine b1 none H (fun _ => False) H (fun _ => False) ⟨[], 0, 0, 0⟩ _ _ _ x0 ?_
    rw [run, ev]
    refine W_bind.mpr (W_bind.mpr ?_)
    rw [evas]
    refine W_bind.mpr ?_
    rw [ev]
    show W (do guardM (Md.p ≠ .v ∨ D.noOwn (.scr ns) = true); pure (D.scr ns)) _ _
    refine W_bind.mpr (W_guard.mpr ⟨.inl (by decide), ?_⟩)
    refine W_pure.mpr (W_bind.mpr ?_)
    rw [evas]
    refine W_pure.mpr (W_pure.mpr ?_)
    show W (do let d ← callF Γ (k + 1) "_law_stream" [.scr ns]; guardM (d.noShr = true ∨ D.noOwns [D.scr ns] = true); pure d) _ _
    refine W_bind.mpr ?_
    have w1 : ∀ R : D → Strm → Prop, R d ⟨[], 0, 0, 0⟩ → W (callF Γ (k + 1) "_law_stream" [.scr ns]) ⟨[], 0, 0, 0⟩ R := fun R hR => by
      unfold W
      rw [h1]
      exact hR
    refine w1 _ ?_
    show W (do guardM (d.noShr = true ∨ D.noOwns [D.scr ns] = true); pure d) _ _
    refine W_bind.mpr (W_guard.mpr ⟨.inr rfl, ?_⟩)
    intro H1 G1 σ1 ev1 x1
    obtain ⟨fp, re, nfp, _⟩ := x1.env
    obtain ⟨v1, r, f1, g1, rfl, rfl, ra, rb⟩ := RepE.some_iff.mp (show RepE K C none H1 G1 (some (.scr ns) :: some d :: List.replicate 5 none) σ1 fp from re)
    obtain ⟨v2, r', f2, g2, rfl, rfl, rc, rd⟩ := RepE.some_iff.mp rb
    obtain ⟨p, G', x2⟩ := stx_strm 5 x1.gs ra rc (nodup_app.mp (nodup_app.mp nfp).2.1).1 h2 h3 (by rw [← rd.length, List.length_replicate])
    refine b2 (some p) H1 G' H1 G' st _ _ _ x2 (W_mono h4 fun r s' q => ?_)
    cases r with
    | nx e =>
      obtain ⟨dv, due, rfl, q1, q2, q3⟩ := q
      exact fun H' G2 σ' _ x' => tb (some p) H1 G' H' G2 s' σ' _ ns dv due x' q1 q2 q3 fun H2 => hQ H2
    | brk e => exact q.elim
    | cont e => exact q.elim
    | ret e => exact q.elim
end
end Mp

namespace Mp
open PySem (Str CmpOp)
/-! ### reckoning with the evaluator -/
@[irreducible] def V {α : Type} (m : M α) (s : Strm) (Q : α → Strm → Prop) : Prop := W m s Q
section
variable {α β : Type} {s : Strm}
theorem V_iff {m : M α} {Q : α → Strm → Prop} : V m s Q ↔ W m s Q := by unfold V; exact Iff.rfl
theorem V_bind {m : M α} {f : α → M β} {Q : β → Strm → Prop} : V (m >>= f) s Q ↔ V m s fun a s' => V (f a) s' Q := by
  unfold V; exact W_bind
theorem V_pure {a : α} {Q : α → Strm → Prop} : V (pure a) s Q ↔ Q a s := by unfold V; exact W_pure
theorem V_bad {Q : α → Strm → Prop} : V (bad : M α) s Q ↔ False := by unfold V; exact W_bad
theorem V_guard {c : Prop} [Decidable c] {Q : Unit → Strm → Prop} : V (guardM c) s Q ↔ c ∧ Q () s := by unfold V; exact W_guard
theorem V_ofO {o : Option α} {Q : α → Strm → Prop} : V (ofO o) s Q ↔ ∃ a, o = some a ∧ Q a s := by unfold V; exact W_ofO
theorem V_some {a : α} {Q : α → Strm → Prop} : V (ofO (some a)) s Q ↔ Q a s := by unfold V; exact Iff.rfl
theorem V_ite {c : Prop} [Decidable c] {m n : M α} {Q : α → Strm → Prop} : V (if c then m else n) s Q ↔ if c then V m s Q else V n s Q := by unfold V; exact W_ite
theorem V_getS {Q : Strm → Strm → Prop} : V getS s Q ↔ Q s s := by unfold V; exact W_getS
theorem V_setS {t : Strm} {Q : Unit → Strm → Prop} : V (setS t) s Q ↔ Q () t := by unfold V; exact Iff.rfl
theorem V_mono {m : M α} {Q Q' : α → Strm → Prop} (h : V m s Q) (hq : ∀ a s', Q a s' → Q' a s') : V m s Q' := by
  unfold V at h ⊢
  exact W_mono h hq
theorem V_call {Γ : String → Option MDef} {f : String} {md : MDef} {k : Nat} {ds : List D} {Q : D → Strm → Prop} (h : Γ f = some md) (hl : ds.length = md.np)
   (q : V (runs (callF Γ k) (ds.map some ++ List.replicate (md.n - md.np) none) md.body) s fun r s' => match r with | .nx _ => Q .non s' | .ret d => Q d s' | _ => False) : V (callF Γ (k + 1) f ds) s Q := by
  unfold V at q ⊢
  rw [callF, h]
  refine W_bind.mpr (W_guard.mpr ⟨hl, W_bind.mpr (W_mono q fun r s' z => ?_)⟩)
  cases r <;> first | exact z | exact z.elim
/-- a walk by an invariant -/
theorem V_for {body : En → M Fl} {t : Tg} {kill : List Nat} {Q : Fl → Strm → Prop} (P : Nat → En → Strm → Prop) : ∀ (xs : List D) (i : Nat) {e : En} {s : Strm}, P i e s →
    (∀ j x e s, xs[j]? = some x → P (i + j) e s → V (asgT t x e) s fun e1 s1 => V (body e1) s1 fun r s2 => match r with
      | .nx e2 => P (i + j + 1) (kilE kill e2) s2
      | .cont e2 => P (i + j + 1) (kilE kill e2) s2
      | .brk e2 => Q (.nx (kilE kill e2)) s2
      | .ret d => Q (.ret d) s2) → (∀ e s, P (i + xs.length) e s → Q (.nx e) s) → V (forL body t kill xs e) s Q
  | [], i, e, s, h0, _, h2 => by
    rw [forL]
    exact V_pure.mpr (h2 e s h0)
  | x :: xs, i, e, s, h0, h1, h2 => by
    rw [forL]
    refine V_bind.mpr (V_mono (h1 0 x e s rfl h0) fun e1 s1 q => V_bind.mpr (V_mono q fun r s2 q => ?_))
    have rec' : ∀ e2, P (i + 1) e2 s2 → V (forL body t kill xs e2) s2 Q := fun e2 p => V_for P xs (i + 1) p (fun j y e s hj pj => by
      have := h1 (j + 1) y e s (by simpa using hj) (by rw [show i + (j + 1) = i + 1 + j by omega]; exact pj)
      rw [show i + (j + 1) + 1 = i + 1 + j + 1 by omega] at this
      exact this) fun e s p => h2 e s (by rw [List.length_cons, show i + (xs.length + 1) = i + 1 + xs.length by omega]; exact p)
    cases r with
    | nx e2 => exact rec' _ q
    | cont e2 => exact rec' _ q
    | brk e2 => exact V_pure.mpr q
    | ret d => exact V_pure.mpr q
/-- a walk whose body hands on one shape -/
theorem V_lc {f : D → M (Option D)} {Q : List D → Strm → Prop} (P : List D → List D → Strm → Prop) : ∀ (xs : List D) (ys : List D) {s : Strm}, P xs ys s →
    (∀ x xs ys s, P (x :: xs) ys s → V (f x) s fun r s' => match r with | some y => P xs (ys ++ [y]) s' | none => P xs ys s') → (∀ zs s, P [] (ys ++ zs) s → Q zs s) → V (lcD f xs) s Q
  | [], ys, s, h0, _, h2 => by
    rw [lcD]
    refine V_pure.mpr (h2 [] s (by rw [List.append_nil]; exact h0))
  | x :: xs, ys, s, h0, h1, h2 => by
    rw [lcD]
    refine V_bind.mpr (V_mono (h1 x xs ys s h0) fun r s1 q => V_bind.mpr ?_)
    cases r with
    | none => exact V_mono (V_lc P xs ys q h1 fun zs s p => h2 zs s p) fun rs s q => V_pure.mpr q
    | some y =>
      refine V_lc P xs (ys ++ [y]) (Q := fun rs s => V (pure (y :: rs)) s Q) q h1 fun zs s p => V_pure.mpr (h2 (y :: zs) s ?_)
      rw [List.append_assoc] at p
      exact p
/-- each item made by itself -/
theorem V_map {f : D → M (Option D)} {g : D → D} {Q : List D → Strm → Prop} : ∀ (xs : List D), (∀ x ∈ xs, ∀ R : Option D → Strm → Prop, R (some (g x)) s → V (f x) s R) → Q (xs.map g) s → V (lcD f xs) s Q
  | [], _, q => by rw [lcD]; exact V_pure.mpr q
  | x :: xs, h, q => by
    rw [lcD]
    refine V_bind.mpr (h x List.mem_cons_self _ (V_bind.mpr (V_map xs (fun y hy => h y (List.mem_cons_of_mem _ hy)) (V_pure.mpr q))))
end
theorem V_out {m : M Fl} {s : Strm} {r : Fl} (h : V m s fun x _ => x = r) : ∃ s', m s = .ok r s' := by
  unfold V W at h
  cases e : m s with
  | ok a s' => rw [e] at h; exact ⟨s', by rw [h]⟩
  | err c s' => rw [e] at h; exact h.elim
  | bad => rw [e] at h; exact h.elim
end Mp

namespace Mp
open PySem (Str CmpOp)
theorem pix_nat {n j : Nat} (h : j < n) : pix n (j : Int) = some j := by
  unfold pix
  rw [if_pos (Int.natCast_nonneg j), if_pos (by omega), Int.toNat_natCast]
theorem ix_tup {ds : List D} {j : Nat} {d : D} (h : ds[j]? = some d) : ixD (.tup ds) (.int (j : Int)) = pure d := by
  have hj := (List.getElem?_eq_some_iff.mp h).1
  show ofO ((pix ds.length j).bind fun j => ds[j]?) = _
  rw [pix_nat hj]
  show ofO ds[j]? = _
  rw [h]; rfl
theorem ix_lst {o : Bool} {ds : List D} {j : Nat} {d : D} (h : ds[j]? = some d) : ixD (.lst o ds) (.int (j : Int)) = pure d := by
  have hj := (List.getElem?_eq_some_iff.mp h).1
  show ofO ((pix ds.length j).bind fun j => ds[j]?) = _
  rw [pix_nat hj]
  show ofO ds[j]? = _
  rw [h]; rfl
/-! ### the small steps of the evaluator, one by one -/
theorem B1 : (∀ i j, binD .add (.int i) (.int j) = pure (.int (i + j))) ∧ (∀ i j, binD .sub (.int i) (.int j) = pure (.int (i - j))) ∧ (∀ i j, binD .mul (.int i) (.int j) = do guardM (mulOk i j); pure (.int (i * j))) ∧
  (∀ a b, binD .add (.rat a) (.rat b) = do guardM (Sm a ∧ Sm b); pure (.rat (a + b))) ∧ (∀ a b, binD .sub (.rat a) (.rat b) = do guardM (Sm a ∧ Sm b); pure (.rat (a - b))) ∧ (∀ a b, binD .mul (.rat a) (.rat b) = do guardM (Sm a ∧ Sm b); pure (.rat (a * b))) ∧
  (∀ i j, binD .fdiv (.int i) (.int j) = do guardM (j ≠ 0 ∧ j.natAbs.log2 < 9000); pure (.int (i.fdiv j))) ∧ (∀ i j, binD .mod (.int i) (.int j) = do guardM (j ≠ 0); pure (.int (i.fmod j))) ∧
  (∀ i j, binD .pow (.int i) (.int j) = do guardM (0 ≤ j ∧ j ≤ 1000000 ∧ i.natAbs < 2 ^ 64); pure (.int (i ^ j.toNat))) ∧
  (∀ o as p bs, binD .add (.lst o as) (.lst p bs) = do guardM (as.length + bs.length ≤ LIM); pure (.lst true (as ++ bs))) ∧ (∀ as bs, binD .add (.tup as) (.tup bs) = do guardM (as.length + bs.length ≤ LIM); pure (.tup (as ++ bs))) ∧
  (∀ i, negD (.int i) = pure (.int (-i))) ∧ (∀ a, negD (.rat a) = do guardM (Sm a); pure (.rat (-a))) ∧
  (∀ i j : Int, cmpD .Eq (.int i) (.int j) = pure (i == j)) ∧ (∀ i j : Int, cmpD .NotEq (.int i) (.int j) = pure (!(i == j))) ∧
  (∀ i j, cmpD .Lt (.int i) (.int j) = pure (decide (i < j))) ∧ (∀ i j, cmpD .LtE (.int i) (.int j) = pure (decide (i ≤ j))) ∧ (∀ i j, cmpD .Gt (.int i) (.int j) = pure (decide (j < i))) ∧ (∀ i j, cmpD .GtE (.int i) (.int j) = pure (decide (j ≤ i))) ∧
  (∀ a, cmpD .Is a .non = pure (isNon a)) ∧ (∀ a, cmpD .IsNot a .non = pure (!isNon a)) ∧
  (truth .non = pure false) ∧ (∀ b, truth (.bl b) = pure b) ∧ (∀ i, truth (.int i) = pure (i != 0)) ∧ (∀ b, toB (.bl b) = pure b) ∧
  (∀ a ds, ixD (.tup (a :: ds)) (.int 0) = pure a) ∧ (∀ a b ds, ixD (.tup (a :: b :: ds)) (.int 1) = pure b) ∧ (∀ a b c ds, ixD (.tup (a :: b :: c :: ds)) (.int 2) = pure c) ∧ (∀ a b c d ds, ixD (.tup (a :: b :: c :: d :: ds)) (.int 3) = pure d) ∧
  (∀ o a ds, ixD (.lst o (a :: ds)) (.int 0) = pure a) ∧ (∀ o a b ds, ixD (.lst o (a :: b :: ds)) (.int 1) = pure b) ∧ (∀ o a b c ds, ixD (.lst o (a :: b :: c :: ds)) (.int 2) = pure c) ∧ (∀ o a b c d ds, ixD (.lst o (a :: b :: c :: d :: ds)) (.int 3) = pure d) ∧
  (∀ i, biD .abs [.int i] = pure (.int (if i < 0 then -i else i))) ∧ (∀ i, biD .int [.int i] = pure (.int i)) ∧ (∀ b : Bool, biD .int [.bl b] = pure (.int (if b then 1 else 0))) ∧
  (∀ o ds, biD .len [.lst o ds] = pure (.int ds.length)) ∧ (∀ ds, biD .len [.tup ds] = pure (.int ds.length)) ∧ (∀ ns, biD .list [.scr ns] = pure (.lst true (ns.map .int))) ∧ (∀ o ds, biD .list [.lst o ds] = pure (.lst true ds)) ∧ (∀ ds, biD .list [.tup ds] = pure (.lst true ds)) ∧
  (∀ o ds, biD .tuple [.lst o ds] = pure (.tup ds)) ∧ (∀ ds, biD .tuple [.tup ds] = pure (.tup ds)) ∧
  (∀ q, numD (.rat q) = pure (.int q.num)) ∧ (∀ q, denD (.rat q) = pure (.int q.den)) ∧ (∀ n : Int, mkD [.int n] = pure (.rat n)) ∧ (∀ n d, mkD [.int n, .int d] = if d = 0 then err "ByZero" else do guardM (d.natAbs.log2 < 9000); pure (.rat (Rat.divInt n d))) ∧
  (∀ q, isD (.rat q) .ratio = pure true) ∧ (∀ ds, isD (.tup ds) .tuple = pure true) ∧ (∀ o ds, isD (.lst o ds) .list = pure true) ∧ (isD .non .ratio = pure false) ∧
  (∀ ns, seqD (.scr ns) = pure (ns.map .int)) ∧ (∀ ds, seqD (.tup ds) = pure ds) ∧ (∀ o ds, seqD (.lst o ds) = pure ds) ∧ (∀ n : Int, rngD (.int n) = do guardM (-LIM ≤ n ∧ n ≤ LIM); pure (rangeD 0 n.toNat)) ∧
  (∀ ds d, appD (.lst true ds) d = do guardM (ds.length < LIM); pure (.lst true (ds ++ [d]))) := by
  repeat' apply And.intro
  all_goals intros
  all_goals first | rfl | exact ix_lst (j := 0) rfl | exact ix_lst (j := 1) rfl | exact ix_lst (j := 2) rfl | exact ix_lst (j := 3) rfl | exact ix_tup (j := 0) rfl | exact ix_tup (j := 1) rfl | exact ix_tup (j := 2) rfl | exact ix_tup (j := 3) rfl
@[irreducible] def Tst (cf : CF) (c : ME) (e : En) : M Bool := tru (ev cf e .t c)
@[irreducible] def Bdy (cf : CF) (b : MSs) (e : En) : M Fl := runs cf e b
@[irreducible] def Elm (cf : CF) (env : En) (t : Tg) (c e : ME) (d : D) : M (Option D) := do
  let env' ← asgT t d (wipeE env t.slots)
  let b ← (if isNop c then pure true else tru (ev cf env' .t c))
  if b then do let r ← ev cf env' .v e; pure (some r) else pure none
theorem Tst_eq {cf : CF} {c : ME} {e : En} : Tst cf c e = tru (ev cf e .t c) := by unfold Tst; rfl
theorem Bdy_eq {cf : CF} {b : MSs} {e : En} : Bdy cf b e = runs cf e b := by unfold Bdy; rfl
theorem Elm_eq {cf : CF} {env : En} {t : Tg} {c e : ME} {d : D} : Elm cf env t c e d = (do
  let env' ← asgT t d (wipeE env t.slots)
  let b ← (if isNop c then pure true else tru (ev cf env' .t c))
  if b then do let r ← ev cf env' .v e; pure (some r) else pure none) := by unfold Elm; rfl
section
variable (cf : CF) (env : En)
theorem E1 : (∀ p, ev cf env p .non = pure .non) ∧ (∀ p b, ev cf env p (.bl b) = pure (.bl b)) ∧ (∀ p i, ev cf env p (.int i) = pure (.int i)) ∧ (∀ p s, ev cf env p (.str s) = pure (.str (Str.ofString s))) ∧
  (∀ p i, ev cf env p (.var i) = match env[i]? with | some (some d) => do guardM (p ≠ .v ∨ d.noOwn = true); pure d | _ => bad) ∧ (∀ p x i, ev cf env p (.glob x i) = pure (.int i)) ∧
  (∀ p op a b, ev cf env p (.bin op a b) = do let x ← bw a (ev cf env .p a); let y ← bw b (ev cf env .p b); binD op x y) ∧ (∀ p a, ev cf env p (.neg a) = do let x ← ev cf env .v a; negD x) ∧
  (∀ p op a b, ev cf env p (.cmp op a b) = do let x ← ev cf env .p a; let y ← ev cf env .p b; let r ← cmpD op x y; pure (.bl r)) ∧
  (∀ p op op' a b c, ev cf env p (.chain op op' a b c) = do let x ← ev cf env .v a; let y ← ev cf env .v b; let r ← cmpD op x y; if r then do let z ← ev cf env .v c; let r' ← cmpD op' y z; pure (.bl r') else pure (.bl false)) ∧
  (∀ a, ev cf env .t (.not a) = notB (tru (ev cf env .t a))) ∧ (∀ a, ev cf env .v (.not a) = notB (tru (ev cf env .p a))) ∧ (∀ a, ev cf env .p (.not a) = notB (tru (ev cf env .p a))) ∧
  (∀ a b, ev cf env .t (.and a b) = do let c ← tru (ev cf env .t a); if c then do let r ← tru (ev cf env .t b); pure (.bl r) else pure (.bl false)) ∧
  (∀ a b, ev cf env .v (.and a b) = do let x ← ev cf env .v a; let c ← toB x; if c then ev cf env .v b else pure (.bl false)) ∧ (∀ a b, ev cf env .p (.and a b) = do let x ← ev cf env .v a; let c ← toB x; if c then ev cf env .v b else pure (.bl false)) ∧
  (∀ a b, ev cf env .t (.or a b) = do let c ← tru (ev cf env .t a); if c then pure (.bl true) else do let r ← tru (ev cf env .t b); pure (.bl r)) ∧
  (∀ a b, ev cf env .v (.or a b) = do let x ← ev cf env .v a; let c ← toB x; if c then pure (.bl true) else ev cf env .v b) ∧ (∀ a b, ev cf env .p (.or a b) = do let x ← ev cf env .v a; let c ← toB x; if c then pure (.bl true) else ev cf env .v b) ∧
  (∀ c a b, ev cf env .v (.ifx c a b) = do let r ← tru (ev cf env .t c); if r then ev cf env .v a else ev cf env .v b) ∧ (∀ c a b, ev cf env .p (.ifx c a b) = do let r ← tru (ev cf env .t c); if r then ev cf env .v a else ev cf env .v b) ∧
  (∀ p a k, ev cf env p (.ix a k) = do let d ← ev cf env .p a; let i ← ev cf env .v k; let r ← ixD d i; guardM (p ≠ .v ∨ isPath a = false ∨ r.noOwn = true); pure r) ∧
  (∀ p a lo hi, ev cf env p (.sl a lo hi) = do let d ← bw a (ev cf env .p a); let l ← optI lo (ev cf env .v lo); let h ← optI hi (ev cf env .v hi); slD d l h) ∧
  (∀ p a, ev cf env p (.top a) = do let x ← ev cf env .v a; numD x) ∧ (∀ p a, ev cf env p (.bot a) = do let x ← ev cf env .v a; denD x) ∧
  (∀ p as, ev cf env p (.tup as) = do let ds ← evs cf env as; pure (.tup ds)) ∧ (∀ p as, ev cf env p (.lst as) = do let ds ← evs cf env as; pure (.lst true ds)) ∧
  (∀ p f as, ev cf env p (.call f as) = do let ds ← evas cf env as; let d ← cf f (D.strips ds); guardM (d.noShr = true ∨ D.noOwns ds = true); pure d) ∧
  (∀ p b as, ev cf env p (.bi b as) = do let ds ← evbs cf env as; biD b ds) ∧ (∀ p as, ev cf env p (.mk as) = do let ds ← evs cf env as; mkD ds) ∧ (∀ p a t, ev cf env p (.isi a t) = do let x ← ev cf env .p a; let b ← isD x t; pure (.bl b)) ∧
  (∀ p t it c e, ev cf env p (.lc t it c e) = do let ds ← items cf env it; guardM (ds.length ≤ LIM ∧ D.noOwns ds = true); let rs ← lcD (Elm cf env t c e) ds; pure (.lst true rs)) ∧
  (evs cf env .nil = pure []) ∧ (∀ a as, evs cf env (.cons a as) = do let d ← ev cf env .v a; let ds ← evs cf env as; pure (d :: ds)) ∧ (evas cf env .nil = pure []) ∧ (∀ a as, evas cf env (.cons a as) = do let d ← ev cf env .p a; let ds ← evas cf env as; pure (d :: ds)) ∧
  (evbs cf env .nil = pure []) ∧ (∀ a as, evbs cf env (.cons a as) = do let d ← bw a (ev cf env .p a); let ds ← evbs cf env as; pure (d :: ds)) ∧
  (∀ a, items cf env (.seq a) = do let d ← ev cf env .v a; seqD d) ∧ (∀ a, items cf env (.rng a) = do let d ← ev cf env .v a; rngD d) ∧ (∀ a b, items cf env (.rng2 a b) = do let d ← ev cf env .v a; let d' ← ev cf env .v b; rng2D d d') ∧
  (∀ a, items cf env (.enum a) = do let d ← ev cf env .v a; let ds ← seqD d; pure (enumD 0 ds)) ∧ (∀ a b, items cf env (.zip a b) = do let d ← ev cf env .v a; let d' ← ev cf env .v b; guardM (d.noOwn = true ∧ d'.noOwn = true); let ds ← seqD d; let ds' ← seqD d'; pure (zipD ds ds')) := by
  have el : ∀ t c e, Elm cf env t c e = fun d => (do
    let env' ← asgT t d (wipeE env t.slots)
    let b ← (if isNop c then pure true else tru (ev cf env' .t c))
    if b then do let r ← ev cf env' .v e; pure (some r) else pure none) := fun t c e => funext fun d => Elm_eq
  repeat' apply And.intro
  all_goals intros
  all_goals first | (rw [el, ev]; done) | (rw [ev]; done) | (rw [evs]; done) | (rw [evas]; done) | (rw [evbs]; done) | (rw [items]; done) | rfl
theorem R1 : (∀ t e, run cf env (.asg t e) = do let d ← ev cf env .v e; let r ← asgT t d env; pure (.nx r)) ∧ (∀ i j a b, run cf env (.par i j a b) = do let x ← ev cf env .v a; let y ← ev cf env .v b; pure (.nx (setE (setE env i x) j y))) ∧
  (∀ i e, run cf env (.aug i e) = do let o ← getE env i; let d ← ev cf env .v e; let r ← augD o d; pure (.nx (setE env i r))) ∧
  (∀ i k e, run cf env (.set1 i k e) = do let d ← ev cf env .v e; let kd ← ev cf env .v k; let o ← getE env i; let r ← set1D o kd d; pure (.nx (setE env i r))) ∧
  (∀ i k l e, run cf env (.set2 i k l e) = do let d ← ev cf env .v e; let kd ← ev cf env .v k; let ld ← ev cf env .v l; let o ← getE env i; let r ← set2D o kd ld d; pure (.nx (setE env i r))) ∧
  (∀ i e, run cf env (.app i e) = do let d ← ev cf env .v e; let o ← getE env i; let r ← appD o d; pure (.nx (setE env i r))) ∧
  (∀ i e, run cf env (.ext i e) = do let d ← bw e (ev cf env .p e); let o ← getE env i; let r ← extD o d; pure (.nx (setE env i r))) ∧
  (∀ i k e, run cf env (.ins i k e) = do let kd ← ev cf env .v k; let d ← ev cf env .v e; let o ← getE env i; let r ← insD o kd d; pure (.nx (setE env i r))) ∧
  (∀ t i k, run cf env (.pop t i k) = do let kd ← ev cf env .v k; let o ← getE env i; let r ← popD o kd; pure (.nx (setE (setE env i r.2) t r.1))) ∧
  (∀ e, run cf env (.exp e) = do let _ ← ev cf env .p e; pure (.nx env)) ∧ (∀ e, run cf env (.ret e) = do let d ← ev cf env .v e; pure (.ret d)) ∧ (∀ i, run cf env (.retv i) = do let d ← getE env i; pure (.ret d)) ∧ (run cf env .retN = pure (.ret .non)) ∧
  (∀ c a b, run cf env (.ite c a b) = do let r ← tru (ev cf env .t c); if r then runs cf env a else runs cf env b) ∧
  (∀ t it b kl, run cf env (.loop t it b kl) = do let ds ← items cf env it; guardM (D.noOwns ds = true); forL (Bdy cf b) t kl ds (kilE kl env)) ∧
  (∀ n c b kl, run cf env (.while n c b kl) = whileL (Tst cf c) (Bdy cf b) kl n (kilE kl env)) ∧
  (run cf env .brk = pure (.brk env)) ∧ (run cf env .cont = pure (.cont env)) ∧ (run cf env .pass = pure (.nx env)) ∧ (∀ i, run cf env (.frz i) = do let d ← getE env i; pure (.nx (setE env i d.strip))) ∧ (∀ l, run cf env (.kil l) = pure (.nx (kilE l env))) ∧
  (∀ i j, run cf env (.appm i j) = do let d ← getE env j; let o ← getE (env.set j none) i; let r ← appD o d; pure (.nx (setE (env.set j none) i r))) ∧ (∀ t i, run cf env (.spoil t i) = do guardM (t ≠ i ∧ t < env.length); let o ← getE env i; let r ← spoilD o; pure (.nx (setE (env.set t none) i r))) ∧ (∀ i, run cf env (.app0 i) = do let o ← getE env i; let r ← app0D o; pure (.nx (setE env i r))) ∧ (∀ i j, run cf env (.mv i j) = do let d ← getE env j; pure (.nx (setE (env.set j none) i d))) ∧ (runs cf env .nil = pure (.nx env)) := by
  have hb : ∀ b, Bdy cf b = fun e => runs cf e b := fun b => funext fun e => Bdy_eq
  have ht : ∀ c, Tst cf c = fun e => tru (ev cf e .t c) := fun c => funext fun e => Tst_eq
  repeat' apply And.intro
  all_goals intros
  all_goals first | (rw [ht, hb, run]; done) | (rw [hb, run]; done) | (rw [run]; done) | (rw [runs]; done)
/-- what stands behind a statement -/
@[irreducible] def Nxt (as : MSs) (Q : Fl → Strm → Prop) (r : Fl) (s : Strm) : Prop := match r with
  | .nx e => V (runs cf e as) s Q
  | r => Q r s
theorem N1 {as : MSs} {Q : Fl → Strm → Prop} {s : Strm} : (∀ e, Nxt cf as Q (.nx e) s ↔ V (runs cf e as) s Q) ∧ (∀ d, Nxt cf as Q (.ret d) s ↔ Q (.ret d) s) ∧ (∀ e, Nxt cf as Q (.brk e) s ↔ Q (.brk e) s) ∧ (∀ e, Nxt cf as Q (.cont e) s ↔ Q (.cont e) s) := by
  unfold Nxt
  exact ⟨fun _ => Iff.rfl, fun _ => Iff.rfl, fun _ => Iff.rfl, fun _ => Iff.rfl⟩
theorem N2 {Q : Fl → Strm → Prop} {s : Strm} : (∀ e, Nxt cf .nil Q (.nx e) s ↔ Q (.nx e) s) ∧ (∀ as d, Nxt cf as Q (.ret d) s ↔ Q (.ret d) s) ∧ (∀ as e, Nxt cf as Q (.brk e) s ↔ Q (.brk e) s) ∧ (∀ as e, Nxt cf as Q (.cont e) s ↔ Q (.cont e) s) := by
  refine ⟨fun e => ?_, fun as => (N1 cf).2.1, fun as => (N1 cf).2.2.1, fun as => (N1 cf).2.2.2⟩
  rw [(N1 cf).1, runs]
  exact V_pure
theorem V_cons {a : MS} {as : MSs} {s : Strm} {Q : Fl → Strm → Prop} : V (runs cf env (.cons a as)) s Q ↔ V (run cf env a) s (Nxt cf as Q) := by
  rw [runs, V_bind]
  have e : (fun (a : Fl) (s' : Strm) => V (match a with | .nx e => runs cf e as | r => pure r) s' Q) = Nxt cf as Q := by
    funext r s'
    cases r with
    | nx e => exact propext ((N1 cf).1 e).symm
    | ret d => exact propext (V_pure.trans ((N1 cf).2.1 d).symm)
    | brk e => exact propext (V_pure.trans ((N1 cf).2.2.1 e).symm)
    | cont e => exact propext (V_pure.trans ((N1 cf).2.2.2 e).symm)
  exact iff_of_eq (congrArg (V (run cf env a) s) e)
end
theorem G1 : (∀ q, elemsOk (.rat q) = true) ∧ (∀ q, elemsOk (.int q) = true) ∧ (∀ q, elemsOk (.bl q) = true) ∧ (∀ q, elemsOk (.str q) = true) ∧ (elemsOk .non = true) ∧ (elemsOk .strm = true) ∧ (∀ q, elemsOk (.scr q) = true) ∧ (∀ ds, elemsOk (.tup ds) = D.noOwns ds) ∧ (∀ o ds, elemsOk (.lst o ds) = D.noOwns ds) ∧
  (∀ q, D.noOwn (.rat q) = true) ∧ (∀ q, D.noOwn (.int q) = true) ∧ (∀ q, D.noOwn (.bl q) = true) ∧ (∀ q, D.noOwn (.str q) = true) ∧ (D.noOwn .non = true) ∧ (D.noOwn .strm = true) ∧ (∀ q, D.noOwn (.scr q) = true) ∧ (∀ ds, D.noOwn (.tup ds) = D.noOwns ds) ∧ (∀ ds, D.noOwn (.lst false ds) = D.noOwns ds) ∧ (∀ ds, D.noOwn (.lst true ds) = false) ∧
  (D.noOwns [] = true) ∧ (∀ d ds, D.noOwns (d :: ds) = (d.noOwn && D.noOwns ds)) ∧
  (∀ q, D.noShr (.rat q) = true) ∧ (∀ q, D.noShr (.int q) = true) ∧ (∀ q, D.noShr (.bl q) = true) ∧ (∀ q, D.noShr (.str q) = true) ∧ (D.noShr .non = true) ∧ (D.noShr .strm = true) ∧ (∀ ds, D.noShr (.tup ds) = D.noShrs ds) ∧ (∀ o ds, D.noShr (.lst o ds) = (o && D.noShrs ds)) ∧
  (D.noShrs [] = true) ∧ (∀ d ds, D.noShrs (d :: ds) = (d.noShr && D.noShrs ds)) := by
  repeat' apply And.intro
  all_goals intros
  all_goals rfl
theorem S1 : (ixD .strm (.int 0) = do let s ← getS; pure (.lst false (s.cells.map .int))) ∧ (ixD .strm (.int 1) = do let s ← getS; pure (.int s.cell)) ∧ (ixD .strm (.int 2) = do let s ← getS; pure (.int s.ix)) ∧ (ixD .strm (.int 3) = do let s ← getS; pure (.int s.mixed)) ∧
  (∀ z, set1D .strm (.int 1) (.int z) = do let s ← getS; setS { s with cell := z }; pure .strm) ∧ (∀ z, set1D .strm (.int 2) (.int z) = do let s ← getS; setS { s with ix := z }; pure .strm) ∧ (∀ z, set1D .strm (.int 3) (.int z) = do let s ← getS; setS { s with mixed := z }; pure .strm) := by
  refine ⟨?_, ?_, ?_, ?_, ?_, ?_, ?_⟩ <;> intros <;> rfl
def pr (q : Rat) : D := .tup [.int q.num, .int q.den]
theorem P1 : (∀ a, (pr a).noOwn = true) ∧ (∀ a, (pr a).strip = pr a) ∧ (∀ a, (pr a).noShr = true) ∧ (∀ a, elemsOk (pr a) = true) ∧ (∀ a, ixD (pr a) (.int 0) = pure (.int a.num)) ∧ (∀ a, ixD (pr a) (.int 1) = pure (.int a.den)) := ⟨fun _ => rfl, fun _ => rfl, fun _ => rfl, fun _ => rfl, fun _ => ix_tup (j := 0) rfl, fun _ => ix_tup (j := 1) rfl⟩
/-! ### Euclid's walk -/
theorem V_euclid {test : En → M Bool} {body : En → M Fl} {E : Int → Int → En} (ht : ∀ a b s (R : Bool → Strm → Prop), R (decide (0 < b)) s → V (test (E a b)) s R) (hb : ∀ a b s (R : Fl → Strm → Prop), 0 < b → R (.nx (E b (a.fmod b))) s → V (body (E a b)) s R) {s : Strm} {Q : Fl → Strm → Prop} :
    ∀ (m fuel : Nat) (a b : Int), 0 ≤ a → 0 ≤ b → b < 2 ^ m → 2 * m + 1 ≤ fuel → Q (.nx (E (Int.gcd a b) 0)) s → V (whileL test body [] fuel (E a b)) s Q := by
  have stop : ∀ (fuel : Nat) (a : Int), 0 ≤ a → 1 ≤ fuel → Q (.nx (E (Int.gcd a 0) 0)) s → V (whileL test body [] fuel (E a 0)) s Q := by
    intro fuel a ha hf q
    obtain ⟨f, rfl⟩ : ∃ f, fuel = f + 1 := ⟨fuel - 1, by omega⟩
    rw [whileL]
    refine V_bind.mpr (ht _ _ _ _ (V_ite.mpr ?_))
    rw [if_neg (by decide), V_pure]
    rw [Int.gcd_zero_right, Int.natAbs_of_nonneg ha] at q
    exact q
  have turn : ∀ (fuel : Nat) (a b : Int), 0 < b → V (whileL test body [] fuel (E b (a.fmod b))) s Q → V (whileL test body [] (fuel + 1) (E a b)) s Q := by
    intro fuel a b hb0 q
    rw [whileL]
    refine V_bind.mpr (ht _ _ _ _ (V_ite.mpr ?_))
    rw [if_pos (decide_eq_true hb0)]
    exact V_bind.mpr (hb _ _ _ _ hb0 q)
  intro m
  induction m with
  | zero =>
    intro fuel a b ha hb0 hm hf q
    have : b = 0 := by omega
    subst this
    exact stop fuel a ha hf q
  | succ m ih =>
    intro fuel a b ha hb0 hm hf q
    by_cases h0 : b = 0
    · subst h0
      exact stop fuel a ha (by omega) q
    · have hp : 0 < b := by omega
      obtain ⟨f, rfl⟩ : ∃ f, fuel = f + 1 := ⟨fuel - 1, by omega⟩
      refine turn f a b hp ?_
      have r0 := Int.fmod_nonneg_of_pos a hp
      have r1 := Int.fmod_lt_of_pos a hp
      have g1 := gcd_step (a := a) (b := b)
      generalize a.fmod b = r at r0 r1 g1 ⊢
      by_cases hr : r = 0
      · subst hr
        exact stop f b (by omega) (by omega) (by rw [g1]; exact q)
      · have hrp : 0 < r := by omega
        obtain ⟨f', rfl⟩ : ∃ f', f = f' + 1 := ⟨f - 1, by omega⟩
        refine turn f' b r hrp ?_
        have t0 := Int.fmod_nonneg_of_pos b hrp
        have t1 := Int.fmod_lt_of_pos b hrp
        have e : b.fmod r = b - r * b.fdiv r := Int.fmod_def b r
        have d1 : 1 ≤ b.fdiv r := by
          rw [Int.fdiv_eq_ediv_of_nonneg _ (by omega)]
          exact Int.le_ediv_of_mul_le hrp (by omega)
        have t2 : b.fmod r ≤ b - r := by
          rw [e]
          have := Int.mul_le_mul_of_nonneg_left d1 (Int.le_of_lt hrp)
          omega
        have g2 := gcd_step (a := b) (b := r)
        refine ih f' r (b.fmod r) (by omega) t0 ?_ (by omega) ?_
        · rw [Int.pow_succ] at hm
          omega
        · rw [g2, g1]
          exact q
end Mp

namespace Mp
open PySem (Str CmpOp)
/-! ### the laws' own words: pairs of integers, the draws -/
def d__law_stream : MDef := ⟨1, 3, (.cons (.asg (.nm 1) (.int 17)) (.cons (.loop (.nm 2) (.seq (.var 0)) (.cons (.asg (.nm 1) (.bin .mod (.bi .int (.cons (.bin .add (.bin .add (.bin .mul (.var 1) (.int 48271)) (.bin .mod (.bi .int (.cons (.var 2) .nil)) (.int 65521))) (.int 1)) .nil)) (.int 2147483647))) .nil) [2]) (.cons (.ret (.lst (.cons (.bi .list (.cons (.var 0) .nil)) (.cons (.int 0) (.cons (.int 0) (.cons (.var 1) .nil)))))) .nil)))⟩
def d__law_draw : MDef := ⟨2, 3, (.cons (.ite (.and (.cmp .Eq (.ix (.var 0) (.int 1)) (.int 0)) (.cmp .Lt (.ix (.var 0) (.int 2)) (.bi .len (.cons (.ix (.var 0) (.int 0)) .nil)))) (.cons (.set1 0 (.int 1) (.bi .abs (.cons (.bi .int (.cons (.ix (.ix (.var 0) (.int 0)) (.ix (.var 0) (.int 2))) .nil)) .nil))) (.cons (.set1 0 (.int 2) (.bin .add (.ix (.var 0) (.int 2)) (.int 1))) .nil)) .nil) (.cons (.ite (.cmp .Eq (.ix (.var 0) (.int 1)) (.int 0)) (.cons (.set1 0 (.int 3) (.bin .mod (.bi .int (.cons (.bin .add (.bin .mul (.ix (.var 0) (.int 3)) (.int 48271)) (.int 11)) .nil)) (.int 2147483647))) (.cons (.ret (.bin .mod (.bi .int (.cons (.bin .fdiv (.ix (.var 0) (.int 3)) (.int 97)) .nil)) (.var 1))) .nil)) .nil) (.cons (.asg (.nm 2) (.bin .mod (.bi .int (.cons (.ix (.var 0) (.int 1)) .nil)) (.var 1))) (.cons (.set1 0 (.int 1) (.bin .fdiv (.ix (.var 0) (.int 1)) (.var 1))) (.cons (.ret (.var 2)) .nil)))))⟩
def d__law_pair : MDef := ⟨2, 4, (.cons (.asg (.nm 2) (.bi .abs (.cons (.var 0) .nil))) (.cons (.asg (.nm 3) (.bi .abs (.cons (.var 1) .nil))) (.cons (.while 100000 (.cmp .Gt (.var 3) (.int 0)) (.cons (.par 2 3 (.var 3) (.bin .mod (.bi .int (.cons (.var 2) .nil)) (.bi .int (.cons (.var 3) .nil)))) .nil) []) (.cons (.ite (.cmp .Lt (.var 1) (.int 0)) (.cons (.asg (.nm 2) (.bin .sub (.int 0) (.var 2))) .nil) .nil) (.cons (.ret (.tup (.cons (.bin .fdiv (.var 0) (.var 2)) (.cons (.bin .fdiv (.var 1) (.var 2)) .nil)))) .nil)))))⟩
def d__law_sum : MDef := ⟨2, 2, (.cons (.ret (.call "_law_pair" (.cons (.bin .add (.bin .mul (.ix (.var 0) (.int 0)) (.ix (.var 1) (.int 1))) (.bin .mul (.ix (.var 1) (.int 0)) (.ix (.var 0) (.int 1)))) (.cons (.bin .mul (.ix (.var 0) (.int 1)) (.ix (.var 1) (.int 1))) .nil)))) .nil)⟩
def d__law_minus : MDef := ⟨1, 1, (.cons (.ret (.tup (.cons (.bin .sub (.int 0) (.ix (.var 0) (.int 0))) (.cons (.ix (.var 0) (.int 1)) .nil)))) .nil)⟩
def d__law_times : MDef := ⟨2, 2, (.cons (.ret (.call "_law_pair" (.cons (.bin .mul (.ix (.var 0) (.int 0)) (.ix (.var 1) (.int 0))) (.cons (.bin .mul (.ix (.var 0) (.int 1)) (.ix (.var 1) (.int 1))) .nil)))) .nil)⟩
def d__law_over : MDef := ⟨2, 2, (.cons (.ret (.call "_law_pair" (.cons (.bin .mul (.ix (.var 0) (.int 0)) (.ix (.var 1) (.int 1))) (.cons (.bin .mul (.ix (.var 0) (.int 1)) (.ix (.var 1) (.int 0))) .nil)))) .nil)⟩
def d__law_size : MDef := ⟨1, 1, (.cons (.ret (.tup (.cons (.bi .abs (.cons (.ix (.var 0) (.int 0)) .nil)) (.cons (.ix (.var 0) (.int 1)) .nil)))) .nil)⟩
def d__law_ratio : MDef := ⟨1, 1, (.cons (.ret (.mk (.cons (.ix (.var 0) (.int 0)) (.cons (.ix (.var 0) (.int 1)) .nil)))) .nil)⟩
def d__law_told : MDef := ⟨1, 1, (.cons (.ite (.not (.isi (.var 0) .ratio)) (.cons (.ret .non) .nil) .nil) (.cons (.ret (.tup (.cons (.top (.var 0)) (.cons (.bot (.var 0)) .nil)))) .nil))⟩
def d__law_number : MDef := ⟨1, 1, (.cons (.ite (.cmp .Eq (.call "_law_draw" (.cons (.var 0) (.cons (.int 12) .nil))) (.int 0)) (.cons (.ret (.call "_law_pair" (.cons (.bin .sub (.call "_law_draw" (.cons (.var 0) (.cons (.bin .pow (.int 10) (.int 9)) .nil))) (.bin .mul (.int 5) (.bin .pow (.int 10) (.int 8)))) (.cons (.bin .add (.int 1) (.call "_law_draw" (.cons (.var 0) (.cons (.bin .pow (.int 10) (.int 6)) .nil)))) .nil)))) .nil) .nil) (.cons (.ret (.call "_law_pair" (.cons (.bin .sub (.call "_law_draw" (.cons (.var 0) (.cons (.int 25) .nil))) (.int 12)) (.cons (.bin .add (.int 1) (.call "_law_draw" (.cons (.var 0) (.cons (.ix (.lst (.cons (.int 1) (.cons (.int 6) .nil))) (.call "_law_draw" (.cons (.var 0) (.cons (.int 2) .nil)))) .nil)))) .nil)))) .nil))⟩
def d__law_some : MDef := ⟨1, 2, (.cons (.asg (.nm 1) (.call "_law_size" (.cons (.call "_law_number" (.cons (.var 0) .nil)) .nil))) (.cons (.ite (.cmp .Eq (.ix (.var 1) (.int 0)) (.int 0)) (.cons (.ret (.tup (.cons (.int 1) (.cons (.ix (.var 1) (.int 1)) .nil)))) .nil) .nil) (.cons (.ret (.var 1)) .nil)))⟩
def d__law_less : MDef := ⟨2, 2, (.cons (.ret (.cmp .Lt (.bin .mul (.ix (.var 0) (.int 0)) (.ix (.var 1) (.int 1))) (.bin .mul (.ix (.var 1) (.int 0)) (.ix (.var 0) (.int 1))))) .nil)⟩
section
variable {Γ : String → Option MDef} {k : Nat} {s : Strm} {Q : D → Strm → Prop}
theorem V_pair (h : Γ "_law_pair" = some d__law_pair) {n d : Int} (hd : d ≠ 0) (hl : d.natAbs.log2 < 9000) (q : Q (pr (Rat.divInt n d)) s) : V (callF Γ (k + 1) "_law_pair" [.int n, .int d]) s Q := by
  refine V_call h rfl ?_
  simp only [d__law_pair, E1, R1, N1, V_cons, bw, optI, tru, notB, V_bind, V_pure, V_guard, V_ite, V_some, V_getS, V_setS, getE, asgT, setE, setsE, kilE, wipeE, D.strips, D.strip, isNop, B1, S1, P1, List.map, List.append, List.replicate, List.set_cons_zero, List.set_cons_succ, List.getElem?_cons_zero, List.getElem?_cons_succ, List.cons_append, List.nil_append, Tg.slots, if_true, Bool.false_eq_true, if_false, reduceIte, List.length_cons, List.length_nil]
  simp only [ne_eq, reduceCtorEq, not_false_eq_true, not_true_eq_false, true_or, or_true, false_or, or_false, true_and, and_true, isPath, G1, P1, Bool.and_true, Bool.true_and, Bool.and_self, Bool.not_true, Bool.not_false]
  have hlog : d.natAbs < 2 ^ 9000 := (Nat.log2_lt (by omega)).mp hl
  have dn := dvr_num (n := n) hd
  have dd := dvr_den (n := n) hd
  have dne := dvr_ne (n := n) hd
  have dlg := dvr_log (n := n) hd hl
  refine V_euclid (E := fun a b => [some (.int n), some (.int d), some (.int a), some (.int b)]) (fun a b s R hR => ?_) (fun a b s R hb hR => ?_) 9000 100000 _ _ (by split <;> omega) (by split <;> omega) ?_ (by decide) ?_
  · rw [Tst_eq]
    simp only [E1, R1, N1, V_cons, bw, optI, tru, notB, V_bind, V_pure, V_guard, V_ite, V_some, V_getS, V_setS, getE, asgT, setE, setsE, kilE, wipeE, D.strips, D.strip, isNop, B1, S1, P1, List.map, List.append, List.replicate, List.set_cons_zero, List.set_cons_succ, List.getElem?_cons_zero, List.getElem?_cons_succ, List.cons_append, List.nil_append, Tg.slots, if_true, Bool.false_eq_true, if_false, reduceIte, List.length_cons, List.length_nil]
    simp only [ne_eq, reduceCtorEq, not_false_eq_true, not_true_eq_false, true_or, or_true, false_or, or_false, true_and, and_true, isPath, G1, P1, Bool.and_true, Bool.true_and, Bool.and_self, Bool.not_true, Bool.not_false]
    exact hR
  · rw [Bdy_eq]
    simp only [E1, R1, N1, V_cons, bw, optI, tru, notB, V_bind, V_pure, V_guard, V_ite, V_some, V_getS, V_setS, getE, asgT, setE, setsE, kilE, wipeE, D.strips, D.strip, isNop, B1, S1, P1, List.map, List.append, List.replicate, List.set_cons_zero, List.set_cons_succ, List.getElem?_cons_zero, List.getElem?_cons_succ, List.cons_append, List.nil_append, Tg.slots, if_true, Bool.false_eq_true, if_false, reduceIte, List.length_cons, List.length_nil]
    simp only [ne_eq, reduceCtorEq, not_false_eq_true, not_true_eq_false, true_or, or_true, false_or, or_false, true_and, and_true, isPath, G1, P1, Bool.and_true, Bool.true_and, Bool.and_self, Bool.not_true, Bool.not_false]
    exact ⟨by omega, hR⟩
  · have : (if d < 0 then -d else d) = (d.natAbs : Int) := by split <;> omega
    rw [this]
    exact_mod_cast hlog
  · have eg : Int.gcd (if n < 0 then -n else n) (if d < 0 then -d else d) = Int.gcd n d := by
      have e1 : (if n < 0 then -n else n) = (n.natAbs : Int) := by split <;> omega
      have e2 : (if d < 0 then -d else d) = (d.natAbs : Int) := by split <;> omega
      rw [e1, e2]
      simp [Int.gcd]
    rw [eg]
    have fin : ∀ g : Int, g = dvr n d → V (runs (callF Γ k) [some (D.int n), some (D.int d), some (D.int g), some (D.int 0)] (.cons (.ret (.tup (.cons (.bin .fdiv (.var 0) (.var 2)) (.cons (.bin .fdiv (.var 1) (.var 2)) .nil)))) .nil)) s (fun r s' => match r with
      | Fl.nx e => Q D.non s'
      | Fl.ret d => Q d s'
      | x => False) := by
      rintro g rfl
      simp only [E1, R1, N1, V_cons, bw, optI, tru, notB, V_bind, V_pure, V_guard, V_ite, V_some, V_getS, V_setS, getE, asgT, setE, setsE, kilE, wipeE, D.strips, D.strip, isNop, B1, S1, P1, List.map, List.append, List.replicate, List.set_cons_zero, List.set_cons_succ, List.getElem?_cons_zero, List.getElem?_cons_succ, List.cons_append, List.nil_append, Tg.slots, if_true, Bool.false_eq_true, if_false, reduceIte, List.length_cons, List.length_nil]
      simp only [ne_eq, reduceCtorEq, not_false_eq_true, not_true_eq_false, true_or, or_true, false_or, or_false, true_and, and_true, isPath, G1, P1, Bool.and_true, Bool.true_and, Bool.and_self, Bool.not_true, Bool.not_false]
      rw [dn, dd]
      exact ⟨⟨dne, dlg⟩, ⟨dne, dlg⟩, q⟩
    simp only [E1, R1, N1, V_cons, bw, optI, tru, notB, V_bind, V_pure, V_guard, V_ite, V_some, V_getS, V_setS, getE, asgT, setE, setsE, kilE, wipeE, D.strips, D.strip, isNop, B1, S1, P1, List.map, List.append, List.replicate, List.set_cons_zero, List.set_cons_succ, List.getElem?_cons_zero, List.getElem?_cons_succ, List.cons_append, List.nil_append, Tg.slots, if_true, Bool.false_eq_true, if_false, reduceIte, List.length_cons, List.length_nil]
    simp only [ne_eq, reduceCtorEq, not_false_eq_true, not_true_eq_false, true_or, or_true, false_or, or_false, true_and, and_true, isPath, G1, P1, Bool.and_true, Bool.true_and, Bool.and_self, Bool.not_true, Bool.not_false]
    unfold dvr at fin
    by_cases h0 : d < 0
    · rw [if_pos (decide_eq_true h0)]
      ((try simp only [E1, R1, N1, V_cons, bw, optI, tru, notB, V_bind, V_pure, V_guard, V_ite, V_some, V_getS, V_setS, getE, asgT, setE, setsE, kilE, wipeE, D.strips, D.strip, isNop, B1, S1, P1, List.map, List.append, List.replicate, List.set_cons_zero, List.set_cons_succ, List.getElem?_cons_zero, List.getElem?_cons_succ, List.cons_append, List.nil_append, Tg.slots, if_true, Bool.false_eq_true, if_false, reduceIte, List.length_cons, List.length_nil]); (try simp only [ne_eq, reduceCtorEq, not_false_eq_true, not_true_eq_false, true_or, or_true, false_or, or_false, true_and, and_true, isPath, G1, P1, Bool.and_true, Bool.true_and, Bool.and_self, Bool.not_true, Bool.not_false]))
      have := fin (0 - (Int.gcd n d : Int)) (by rw [if_pos h0]; omega)
      simp only [E1, R1, N1, V_cons, bw, optI, tru, notB, V_bind, V_pure, V_guard, V_ite, V_some, V_getS, V_setS, getE, asgT, setE, setsE, kilE, wipeE, D.strips, D.strip, isNop, B1, S1, P1, List.map, List.append, List.replicate, List.set_cons_zero, List.set_cons_succ, List.getElem?_cons_zero, List.getElem?_cons_succ, List.cons_append, List.nil_append, Tg.slots, if_true, Bool.false_eq_true, if_false, reduceIte, List.length_cons, List.length_nil] at this
      simp only [ne_eq, reduceCtorEq, not_false_eq_true, not_true_eq_false, true_or, or_true, false_or, or_false, true_and, and_true, isPath, G1, P1, Bool.and_true, Bool.true_and, Bool.and_self, Bool.not_true, Bool.not_false] at this
      exact this
    · rw [if_neg (by simpa using h0)]
      have := fin (Int.gcd n d : Int) (by rw [if_neg h0])
      simp only [E1, R1, N1, V_cons, bw, optI, tru, notB, V_bind, V_pure, V_guard, V_ite, V_some, V_getS, V_setS, getE, asgT, setE, setsE, kilE, wipeE, D.strips, D.strip, isNop, B1, S1, P1, List.map, List.append, List.replicate, List.set_cons_zero, List.set_cons_succ, List.getElem?_cons_zero, List.getElem?_cons_succ, List.cons_append, List.nil_append, Tg.slots, if_true, Bool.false_eq_true, if_false, reduceIte, List.length_cons, List.length_nil] at this
      try simp only [ne_eq, reduceCtorEq, not_false_eq_true, not_true_eq_false, true_or, or_true, false_or, or_false, true_and, and_true, isPath, G1, P1, Bool.and_true, Bool.true_and, Bool.and_self, Bool.not_true, Bool.not_false] at this
      exact this
theorem rat_divE {a b : Rat} (hb : b ≠ 0) : Rat.divInt (a.num * b.den) (a.den * b.num) = a / b := by
  have h1 : (a.den : Int) ≠ 0 := by have := a.den_nz; omega
  have h2 : b.num ≠ 0 := fun z => hb (Rat.num_eq_zero.mp z)
  rw [Rat.div_def, ← Rat.divInt_mul_divInt, Rat.num_divInt_den]
  congr 1
  rw [← Rat.inv_divInt, Rat.num_divInt_den]
theorem num_neg' {a : Rat} : a.num < 0 ↔ a < 0 := by
  have := @Rat.num_nonneg a
  rw [← Rat.not_le, ← this]
  omega
theorem V_sum (h : Γ "_law_pair" = some d__law_pair) (h2 : Γ "_law_sum" = some d__law_sum) {a b : Rat} (ha : Sm a) (hb : Sm b) (q : Q (pr (a + b)) s) : V (callF Γ (k + 2) "_law_sum" [pr a, pr b]) s Q := by
  refine V_call h2 rfl ?_
  simp only [d__law_sum, pr]
  ((try simp only [E1, R1, N1, V_cons, bw, optI, tru, notB, V_bind, V_pure, V_guard, V_ite, V_some, V_getS, V_setS, getE, asgT, setE, setsE, kilE, wipeE, D.strips, D.strip, isNop, B1, S1, P1, List.map, List.append, List.replicate, List.set_cons_zero, List.set_cons_succ, List.getElem?_cons_zero, List.getElem?_cons_succ, List.cons_append, List.nil_append, Tg.slots, if_true, Bool.false_eq_true, if_false, reduceIte, List.length_cons, List.length_nil]); (try simp only [ne_eq, reduceCtorEq, not_false_eq_true, not_true_eq_false, true_or, or_true, false_or, or_false, true_and, and_true, isPath, G1, P1, Bool.and_true, Bool.true_and, Bool.and_self, Bool.not_true, Bool.not_false]))
  refine ⟨sm_mul ha.num (by simpa using hb.den), sm_mul hb.num (by simpa using ha.den), sm_mul (by simpa using ha.den) (by simpa using hb.den), V_pair h rat_den_ne (sm_log ha hb) ?_⟩
  rw [rat_addE]
  exact q
theorem V_times (h : Γ "_law_pair" = some d__law_pair) (h2 : Γ "_law_times" = some d__law_times) {a b : Rat} (ha : Sm a) (hb : Sm b) (q : Q (pr (a * b)) s) : V (callF Γ (k + 2) "_law_times" [pr a, pr b]) s Q := by
  refine V_call h2 rfl ?_
  simp only [d__law_times, pr]
  ((try simp only [E1, R1, N1, V_cons, bw, optI, tru, notB, V_bind, V_pure, V_guard, V_ite, V_some, V_getS, V_setS, getE, asgT, setE, setsE, kilE, wipeE, D.strips, D.strip, isNop, B1, S1, P1, List.map, List.append, List.replicate, List.set_cons_zero, List.set_cons_succ, List.getElem?_cons_zero, List.getElem?_cons_succ, List.cons_append, List.nil_append, Tg.slots, if_true, Bool.false_eq_true, if_false, reduceIte, List.length_cons, List.length_nil]); (try simp only [ne_eq, reduceCtorEq, not_false_eq_true, not_true_eq_false, true_or, or_true, false_or, or_false, true_and, and_true, isPath, G1, P1, Bool.and_true, Bool.true_and, Bool.and_self, Bool.not_true, Bool.not_false]))
  refine ⟨sm_mul ha.num hb.num, sm_mul (by simpa using ha.den) (by simpa using hb.den), V_pair h rat_den_ne (sm_log ha hb) ?_⟩
  rw [rat_mulE]
  exact q
theorem V_over (h : Γ "_law_pair" = some d__law_pair) (h2 : Γ "_law_over" = some d__law_over) {a b : Rat} (h0 : b ≠ 0) (ha : Sm a) (hb : Sm b) (q : Q (pr (a / b)) s) : V (callF Γ (k + 2) "_law_over" [pr a, pr b]) s Q := by
  refine V_call h2 rfl ?_
  simp only [d__law_over, pr]
  ((try simp only [E1, R1, N1, V_cons, bw, optI, tru, notB, V_bind, V_pure, V_guard, V_ite, V_some, V_getS, V_setS, getE, asgT, setE, setsE, kilE, wipeE, D.strips, D.strip, isNop, B1, S1, P1, List.map, List.append, List.replicate, List.set_cons_zero, List.set_cons_succ, List.getElem?_cons_zero, List.getElem?_cons_succ, List.cons_append, List.nil_append, Tg.slots, if_true, Bool.false_eq_true, if_false, reduceIte, List.length_cons, List.length_nil]); (try simp only [ne_eq, reduceCtorEq, not_false_eq_true, not_true_eq_false, true_or, or_true, false_or, or_false, true_and, and_true, isPath, G1, P1, Bool.and_true, Bool.true_and, Bool.and_self, Bool.not_true, Bool.not_false]))
  have h1 : (a.den : Int) ≠ 0 := by have := a.den_nz; omega
  have h3 : b.num ≠ 0 := fun z => h0 (Rat.num_eq_zero.mp z)
  refine ⟨sm_mul ha.num (by simpa using hb.den), sm_mul (by simpa using ha.den) hb.num, V_pair h (Int.mul_ne_zero h1 h3) ?_ ?_⟩
  · rw [Int.natAbs_mul, Int.natAbs_natCast]
    refine (Nat.log2_lt (Nat.mul_ne_zero a.den_nz (by omega))).mpr ?_
    have : a.den * b.num.natAbs < 2 ^ BIT * 2 ^ BIT := Nat.mul_lt_mul'' ha.den hb.num
    rw [← Nat.pow_add] at this
    exact Nat.lt_of_lt_of_le this (Nat.pow_le_pow_right (by decide) (by unfold BIT; omega))
  · rw [rat_divE h0]
    exact q
theorem V_minus (h2 : Γ "_law_minus" = some d__law_minus) {a : Rat} (q : Q (pr (-a)) s) : V (callF Γ (k + 1) "_law_minus" [pr a]) s Q := by
  refine V_call h2 rfl ?_
  simp only [d__law_minus, pr]
  ((try simp only [E1, R1, N1, V_cons, bw, optI, tru, notB, V_bind, V_pure, V_guard, V_ite, V_some, V_getS, V_setS, getE, asgT, setE, setsE, kilE, wipeE, D.strips, D.strip, isNop, B1, S1, P1, List.map, List.append, List.replicate, List.set_cons_zero, List.set_cons_succ, List.getElem?_cons_zero, List.getElem?_cons_succ, List.cons_append, List.nil_append, Tg.slots, if_true, Bool.false_eq_true, if_false, reduceIte, List.length_cons, List.length_nil]); (try simp only [ne_eq, reduceCtorEq, not_false_eq_true, not_true_eq_false, true_or, or_true, false_or, or_false, true_and, and_true, isPath, G1, P1, Bool.and_true, Bool.true_and, Bool.and_self, Bool.not_true, Bool.not_false]))
  have e : pr (-a) = .tup [.int (0 - a.num), .int a.den] := by
    unfold pr
    rw [Rat.neg_num, Rat.neg_den, Int.zero_sub]
  rw [e] at q
  exact q
def ra (q : Rat) : Rat := if q < 0 then -q else q
theorem pr_ra (a : Rat) : pr (ra a) = .tup [.int (if a.num < 0 then -a.num else a.num), .int a.den] := by
  unfold ra pr
  by_cases h : a < 0
  · rw [if_pos h, if_pos (num_neg'.mpr h), Rat.neg_num, Rat.neg_den]
  · rw [if_neg h, if_neg (fun z => h (num_neg'.mp z))]
theorem V_size (h2 : Γ "_law_size" = some d__law_size) {a : Rat} (q : Q (pr (ra a)) s) : V (callF Γ (k + 1) "_law_size" [pr a]) s Q := by
  refine V_call h2 rfl ?_
  rw [pr_ra] at q
  simp only [d__law_size, pr]
  ((try simp only [E1, R1, N1, V_cons, bw, optI, tru, notB, V_bind, V_pure, V_guard, V_ite, V_some, V_getS, V_setS, getE, asgT, setE, setsE, kilE, wipeE, D.strips, D.strip, isNop, B1, S1, P1, List.map, List.append, List.replicate, List.set_cons_zero, List.set_cons_succ, List.getElem?_cons_zero, List.getElem?_cons_succ, List.cons_append, List.nil_append, Tg.slots, if_true, Bool.false_eq_true, if_false, reduceIte, List.length_cons, List.length_nil]); (try simp only [ne_eq, reduceCtorEq, not_false_eq_true, not_true_eq_false, true_or, or_true, false_or, or_false, true_and, and_true, isPath, G1, P1, Bool.and_true, Bool.true_and, Bool.and_self, Bool.not_true, Bool.not_false]))
  exact q
theorem V_less (h2 : Γ "_law_less" = some d__law_less) {a b : Rat} (ha : Sm a) (hb : Sm b) (q : Q (.bl (decide (a < b))) s) : V (callF Γ (k + 1) "_law_less" [pr a, pr b]) s Q := by
  refine V_call h2 rfl ?_
  simp only [d__law_less, pr]
  ((try simp only [E1, R1, N1, V_cons, bw, optI, tru, notB, V_bind, V_pure, V_guard, V_ite, V_some, V_getS, V_setS, getE, asgT, setE, setsE, kilE, wipeE, D.strips, D.strip, isNop, B1, S1, P1, List.map, List.append, List.replicate, List.set_cons_zero, List.set_cons_succ, List.getElem?_cons_zero, List.getElem?_cons_succ, List.cons_append, List.nil_append, Tg.slots, if_true, Bool.false_eq_true, if_false, reduceIte, List.length_cons, List.length_nil]); (try simp only [ne_eq, reduceCtorEq, not_false_eq_true, not_true_eq_false, true_or, or_true, false_or, or_false, true_and, and_true, isPath, G1, P1, Bool.and_true, Bool.true_and, Bool.and_self, Bool.not_true, Bool.not_false]))
  refine ⟨sm_mul ha.num (by simpa using hb.den), sm_mul hb.num (by simpa using ha.den), ?_⟩
  have e : decide (a.num * (b.den : Int) < b.num * (a.den : Int)) = decide (a < b) := decide_eq_decide.mpr (Rat.lt_iff a b).symm
  rw [e]
  exact q
theorem V_ratio (h2 : Γ "_law_ratio" = some d__law_ratio) {a : Rat} (ha : Sm a) (q : Q (.rat a) s) : V (callF Γ (k + 1) "_law_ratio" [pr a]) s Q := by
  refine V_call h2 rfl ?_
  simp only [d__law_ratio, pr]
  ((try simp only [E1, R1, N1, V_cons, bw, optI, tru, notB, V_bind, V_pure, V_guard, V_ite, V_some, V_getS, V_setS, getE, asgT, setE, setsE, kilE, wipeE, D.strips, D.strip, isNop, B1, S1, P1, List.map, List.append, List.replicate, List.set_cons_zero, List.set_cons_succ, List.getElem?_cons_zero, List.getElem?_cons_succ, List.cons_append, List.nil_append, Tg.slots, if_true, Bool.false_eq_true, if_false, reduceIte, List.length_cons, List.length_nil]); (try simp only [ne_eq, reduceCtorEq, not_false_eq_true, not_true_eq_false, true_or, or_true, false_or, or_false, true_and, and_true, isPath, G1, P1, Bool.and_true, Bool.true_and, Bool.and_self, Bool.not_true, Bool.not_false]))
  have h1 : (a.den : Int) ≠ 0 := by have := a.den_nz; omega
  rw [if_neg h1]
  refine ⟨?_, ?_⟩
  · rw [Int.natAbs_natCast]
    have := log_bit ha.den
    omega
  · rw [Rat.num_divInt_den]
    exact q
theorem V_told (h2 : Γ "_law_told" = some d__law_told) {a : Rat} (q : Q (pr a) s) : V (callF Γ (k + 1) "_law_told" [.rat a]) s Q := by
  refine V_call h2 rfl ?_
  simp only [d__law_told]
  ((try simp only [E1, R1, N1, V_cons, bw, optI, tru, notB, V_bind, V_pure, V_guard, V_ite, V_some, V_getS, V_setS, getE, asgT, setE, setsE, kilE, wipeE, D.strips, D.strip, isNop, B1, S1, P1, List.map, List.append, List.replicate, List.set_cons_zero, List.set_cons_succ, List.getElem?_cons_zero, List.getElem?_cons_succ, List.cons_append, List.nil_append, Tg.slots, if_true, Bool.false_eq_true, if_false, reduceIte, List.length_cons, List.length_nil]); (try simp only [ne_eq, reduceCtorEq, not_false_eq_true, not_true_eq_false, true_or, or_true, false_or, or_false, true_and, and_true, isPath, G1, P1, Bool.and_true, Bool.true_and, Bool.and_self, Bool.not_true, Bool.not_false]))
  exact q
/-! ### draws -/
/-- a stream that may be drawn from -/
structure Sok (s : Strm) : Prop where
  ix : 0 ≤ s.ix
  lo : 0 ≤ s.mixed
  hi : s.mixed < 2147483647
theorem cells_get {ns : List Int} {j : Nat} {z : Int} (h : ns[j]? = some z) : (ns.map D.int)[j]? = some (.int z) := by rw [List.getElem?_map, h]; rfl
theorem V_draw (h2 : Γ "_law_draw" = some d__law_draw) {n : Int} (hn : 0 < n) (hl : n.natAbs.log2 < 9000) (hs : Sok s) (q : ∀ v s', Sok s' → 0 ≤ v → v < n → Q (.int v) s') : V (callF Γ (k + 1) "_law_draw" [.strm, .int n]) s Q := by
  refine V_call h2 rfl ?_
  have fin : ∀ t : Strm, Sok t → if (t.cell == 0) = true then mulOk t.mixed 48271 ∧ ¬(2147483647 : Int) = 0 ∧ (¬(97 : Int) = 0 ∧ (Int.natAbs 97).log2 < 9000) ∧ ¬n = 0 ∧
          Q (D.int ((((t.mixed * 48271 + 11).fmod 2147483647).fdiv 97).fmod n)) { cells := t.cells, cell := t.cell, ix := t.ix, mixed := (t.mixed * 48271 + 11).fmod 2147483647 }
      else ¬n = 0 ∧ (¬n = 0 ∧ n.natAbs.log2 < 9000) ∧ Q (D.int (t.cell.fmod n)) { cells := t.cells, cell := t.cell.fdiv n, ix := t.ix, mixed := t.mixed } := by
    intro t ht
    have n0 : ¬ n = 0 := by omega
    split
    · refine ⟨?_, by decide, ⟨by decide, by decide +kernel⟩, n0, q _ _ ⟨ht.ix, Int.fmod_nonneg_of_pos _ (by decide), Int.fmod_lt_of_pos _ (by decide)⟩ (Int.fmod_nonneg_of_pos _ hn) (Int.fmod_lt_of_pos _ hn)⟩
      have h1 := ht.lo
      have h3 := ht.hi
      have h4 : t.mixed.natAbs < 2 ^ 31 := by omega
      have h5 : t.mixed.natAbs.log2 < 32 := by
        by_cases z : t.mixed.natAbs = 0
        · rw [z]; decide
        · exact Nat.lt_succ_of_lt ((Nat.log2_lt z).mpr h4)
      have h6 : (Int.natAbs 48271).log2 < 32 := by decide +kernel
      unfold mulOk
      omega
    · exact ⟨n0, ⟨n0, hl⟩, q _ _ ⟨ht.ix, ht.lo, ht.hi⟩ (Int.fmod_nonneg_of_pos _ hn) (Int.fmod_lt_of_pos _ hn)⟩
  simp only [d__law_draw]
  ((try simp only [E1, R1, N1, V_cons, bw, optI, tru, notB, V_bind, V_pure, V_guard, V_ite, V_some, V_getS, V_setS, getE, asgT, setE, setsE, kilE, wipeE, D.strips, D.strip, isNop, B1, S1, P1, List.map, List.append, List.replicate, List.set_cons_zero, List.set_cons_succ, List.getElem?_cons_zero, List.getElem?_cons_succ, List.cons_append, List.nil_append, Tg.slots, if_true, Bool.false_eq_true, if_false, reduceIte, List.length_cons, List.length_nil]); (try simp only [ne_eq, reduceCtorEq, not_false_eq_true, not_true_eq_false, true_or, or_true, false_or, or_false, true_and, and_true, isPath, G1, P1, Bool.and_true, Bool.true_and, Bool.and_self, Bool.not_true, Bool.not_false]))
  have no : D.noOwns (List.map D.int s.cells) = true := by
    generalize s.cells = xs
    induction xs with
    | nil => rfl
    | cons x xs ih => exact ih
  split
  · refine ⟨no, ?_⟩
    split
    · rename_i hlt
      have hlt : s.ix < (s.cells.map D.int).length := of_decide_eq_true hlt
      rw [List.length_map] at hlt
      obtain ⟨j, hj⟩ := Int.eq_ofNat_of_zero_le hs.ix
      have hj2 : j < s.cells.length := by omega
      have e := cells_get (List.getElem?_eq_getElem hj2)
      rw [hj, ix_lst e]
      ((try simp only [E1, R1, N1, V_cons, bw, optI, tru, notB, V_bind, V_pure, V_guard, V_ite, V_some, V_getS, V_setS, getE, asgT, setE, setsE, kilE, wipeE, D.strips, D.strip, isNop, B1, S1, P1, List.map, List.append, List.replicate, List.set_cons_zero, List.set_cons_succ, List.getElem?_cons_zero, List.getElem?_cons_succ, List.cons_append, List.nil_append, Tg.slots, if_true, Bool.false_eq_true, if_false, reduceIte, List.length_cons, List.length_nil]); (try simp only [ne_eq, reduceCtorEq, not_false_eq_true, not_true_eq_false, true_or, or_true, false_or, or_false, true_and, and_true, isPath, G1, P1, Bool.and_true, Bool.true_and, Bool.and_self, Bool.not_true, Bool.not_false]))
      have := fin { cells := s.cells, cell := if s.cells[j] < 0 then -s.cells[j] else s.cells[j], ix := s.ix + 1, mixed := s.mixed } ⟨by have := hs.ix; show 0 ≤ s.ix + 1; omega, hs.lo, hs.hi⟩
      exact this
    · rename_i hc _
      have f := fin s hs
      rw [if_pos hc] at f
      exact f
  · rename_i hc
    have f := fin s hs
    rw [if_neg hc] at f
    exact f
theorem V_stream (h2 : Γ "_law_stream" = some d__law_stream) {ns : List Int} (q : ∀ m : Int, 0 ≤ m → m < 2147483647 → Q (.lst true [.lst true (ns.map .int), .int 0, .int 0, .int m]) s) : V (callF Γ (k + 1) "_law_stream" [.scr ns]) s Q := by
  refine V_call h2 rfl ?_
  simp only [d__law_stream]
  ((try simp only [E1, R1, N1, V_cons, bw, optI, tru, notB, V_bind, V_pure, V_guard, V_ite, V_some, V_getS, V_setS, getE, asgT, setE, setsE, kilE, wipeE, D.strips, D.strip, isNop, B1, S1, P1, List.map, List.append, List.replicate, List.set_cons_zero, List.set_cons_succ, List.getElem?_cons_zero, List.getElem?_cons_succ, List.cons_append, List.nil_append, Tg.slots, if_true, Bool.false_eq_true, if_false, reduceIte, List.length_cons, List.length_nil]); (try simp only [ne_eq, reduceCtorEq, not_false_eq_true, not_true_eq_false, true_or, or_true, false_or, or_false, true_and, and_true, isPath, G1, P1, Bool.and_true, Bool.true_and, Bool.and_self, Bool.not_true, Bool.not_false]))
  have no : D.noOwns (List.map D.int ns) = true := by
    generalize ns = xs
    induction xs with
    | nil => rfl
    | cons x xs ih => exact ih
  refine ⟨no, ?_⟩
  refine V_for (fun i e t => t = s ∧ ∃ m : Int, 0 ≤ m ∧ m < 2147483647 ∧ e = [some (.scr ns), some (.int m), none]) _ 0 ⟨rfl, 17, by decide, by decide, rfl⟩ ?_ ?_
  · rintro j x e t hx ⟨rfl, m, m0, m1, rfl⟩
    rw [List.getElem?_map] at hx
    obtain ⟨c, _, rfl⟩ := Option.map_eq_some_iff.mp hx
    ((try simp only [E1, R1, N1, V_cons, bw, optI, tru, notB, V_bind, V_pure, V_guard, V_ite, V_some, V_getS, V_setS, getE, asgT, setE, setsE, kilE, wipeE, D.strips, D.strip, isNop, B1, S1, P1, List.map, List.append, List.replicate, List.set_cons_zero, List.set_cons_succ, List.getElem?_cons_zero, List.getElem?_cons_succ, List.cons_append, List.nil_append, Tg.slots, if_true, Bool.false_eq_true, if_false, reduceIte, List.length_cons, List.length_nil]); (try simp only [ne_eq, reduceCtorEq, not_false_eq_true, not_true_eq_false, true_or, or_true, false_or, or_false, true_and, and_true, isPath, G1, P1, Bool.and_true, Bool.true_and, Bool.and_self, Bool.not_true, Bool.not_false]))
    rw [Bdy_eq]
    ((try simp only [E1, R1, N1, V_cons, bw, optI, tru, notB, V_bind, V_pure, V_guard, V_ite, V_some, V_getS, V_setS, getE, asgT, setE, setsE, kilE, wipeE, D.strips, D.strip, isNop, B1, S1, P1, List.map, List.append, List.replicate, List.set_cons_zero, List.set_cons_succ, List.getElem?_cons_zero, List.getElem?_cons_succ, List.cons_append, List.nil_append, Tg.slots, if_true, Bool.false_eq_true, if_false, reduceIte, List.length_cons, List.length_nil]); (try simp only [ne_eq, reduceCtorEq, not_false_eq_true, not_true_eq_false, true_or, or_true, false_or, or_false, true_and, and_true, isPath, G1, P1, Bool.and_true, Bool.true_and, Bool.and_self, Bool.not_true, Bool.not_false]))
    refine ⟨?_, by decide, by decide, _, Int.fmod_nonneg_of_pos _ (by decide), Int.fmod_lt_of_pos _ (by decide), rfl⟩
    have h4 : m.natAbs < 2 ^ 31 := by omega
    have h5 : m.natAbs.log2 < 32 := by
      by_cases z : m.natAbs = 0
      · rw [z]; decide
      · exact Nat.lt_succ_of_lt ((Nat.log2_lt z).mpr h4)
    have h6 : (Int.natAbs 48271).log2 < 32 := by decide +kernel
    unfold mulOk
    omega
  · rintro e t ⟨rfl, m, m0, m1, rfl⟩
    ((try simp only [E1, R1, N1, V_cons, bw, optI, tru, notB, V_bind, V_pure, V_guard, V_ite, V_some, V_getS, V_setS, getE, asgT, setE, setsE, kilE, wipeE, D.strips, D.strip, isNop, B1, S1, P1, List.map, List.append, List.replicate, List.set_cons_zero, List.set_cons_succ, List.getElem?_cons_zero, List.getElem?_cons_succ, List.cons_append, List.nil_append, Tg.slots, if_true, Bool.false_eq_true, if_false, reduceIte, List.length_cons, List.length_nil]); (try simp only [ne_eq, reduceCtorEq, not_false_eq_true, not_true_eq_false, true_or, or_true, false_or, or_false, true_and, and_true, isPath, G1, P1, Bool.and_true, Bool.true_and, Bool.and_self, Bool.not_true, Bool.not_false]))
    exact q m m0 m1
end
end Mp

namespace Mp
open PySem (Str CmpOp)
/-! ### how long fractions are -/
structure Zb (n d : Nat) (q : Rat) : Prop where
  num : q.num.natAbs < 2 ^ n
  den : q.den ≤ 2 ^ d
theorem Zb.mono {n d n' d' : Nat} {q : Rat} (h : Zb n d q) (h1 : n ≤ n') (h2 : d ≤ d') : Zb n' d' q :=
  ⟨Nat.lt_of_lt_of_le h.num (Nat.pow_le_pow_right (by decide) h1), Nat.le_trans h.den (Nat.pow_le_pow_right (by decide) h2)⟩
theorem Zb.sm {n d : Nat} {q : Rat} (h : Zb n d q) (h1 : n ≤ 4490) (h2 : d < 4490) : Sm q :=
  ⟨Nat.lt_of_lt_of_le h.num (Nat.pow_le_pow_right (by decide) h1), Nat.lt_of_le_of_lt h.den (Nat.pow_lt_pow_right (by decide) h2)⟩
theorem Zb.divInt {n d : Int} {a b : Nat} (hd : d ≠ 0) (h1 : n.natAbs < 2 ^ a) (h2 : d.natAbs ≤ 2 ^ b) : Zb a b (Rat.divInt n d) := by
  have hg : 0 < Int.gcd d n := Int.gcd_pos_of_ne_zero_left _ hd
  refine ⟨?_, ?_⟩
  · rw [Rat.num_divInt]
    refine Nat.lt_of_le_of_lt ?_ h1
    have e : (d.sign * n).natAbs = n.natAbs := by
      rcases Int.lt_or_gt_of_ne hd with h | h
      · rw [Int.sign_eq_neg_one_of_neg h]; omega
      · rw [Int.sign_eq_one_of_pos h]; omega
    rw [← e]
    exact Int.natAbs_ediv_le_natAbs _ _
  · rw [Rat.den_divInt, if_neg hd]
    exact Nat.le_trans (Nat.div_le_self _ _) h2
theorem Zb.add {n d n' d' : Nat} {a b : Rat} (h : Zb n d a) (h' : Zb n' d' b) : Zb (max (n + d') (n' + d) + 1) (d + d') (a + b) := by
  rw [← rat_addE]
  refine Zb.divInt rat_den_ne ?_ ?_
  · have h1 : (a.num * b.den).natAbs < 2 ^ (n + d') := by
      rw [Int.natAbs_mul, Int.natAbs_natCast, Nat.pow_add]
      exact Nat.mul_lt_mul_of_lt_of_le h.num h'.den (Nat.two_pow_pos _)
    have h2 : (b.num * a.den).natAbs < 2 ^ (n' + d) := by
      rw [Int.natAbs_mul, Int.natAbs_natCast, Nat.pow_add]
      exact Nat.mul_lt_mul_of_lt_of_le h'.num h.den (Nat.two_pow_pos _)
    have h3 : 2 ^ (n + d') ≤ 2 ^ (max (n + d') (n' + d)) := Nat.pow_le_pow_right (by decide) (Nat.le_max_left _ _)
    have h4 : 2 ^ (n' + d) ≤ 2 ^ (max (n + d') (n' + d)) := Nat.pow_le_pow_right (by decide) (Nat.le_max_right _ _)
    rw [Nat.pow_succ]
    omega
  · rw [Int.natAbs_mul, Int.natAbs_natCast, Int.natAbs_natCast, Nat.pow_add]
    exact Nat.mul_le_mul h.den h'.den
theorem Zb.neg {n d : Nat} {a : Rat} (h : Zb n d a) : Zb n d (-a) := ⟨by rw [Rat.neg_num, Int.natAbs_neg]; exact h.num, h.den⟩
theorem Zb.sub {n d n' d' : Nat} {a b : Rat} (h : Zb n d a) (h' : Zb n' d' b) : Zb (max (n + d') (n' + d) + 1) (d + d') (a - b) := by
  rw [Rat.sub_eq_add_neg]
  exact h.add h'.neg
theorem Zb.mul {n d n' d' : Nat} {a b : Rat} (h : Zb n d a) (h' : Zb n' d' b) : Zb (n + n') (d + d') (a * b) := by
  rw [← rat_mulE]
  refine Zb.divInt rat_den_ne ?_ ?_
  · rw [Int.natAbs_mul, Nat.pow_add]
    exact Nat.mul_lt_mul'' h.num h'.num
  · rw [Int.natAbs_mul, Int.natAbs_natCast, Int.natAbs_natCast, Nat.pow_add]
    exact Nat.mul_le_mul h.den h'.den
theorem Zb.div {n d n' d' : Nat} {a b : Rat} (h0 : b ≠ 0) (h : Zb n d a) (h' : Zb n' d' b) : Zb (n + d') (d + n') (a / b) := by
  rw [← rat_divE h0]
  have h1 : (a.den : Int) ≠ 0 := by have := a.den_nz; omega
  have h3 : b.num ≠ 0 := fun z => h0 (Rat.num_eq_zero.mp z)
  refine Zb.divInt (Int.mul_ne_zero h1 h3) ?_ ?_
  · rw [Int.natAbs_mul, Int.natAbs_natCast, Nat.pow_add]
    exact Nat.mul_lt_mul_of_lt_of_le h.num h'.den (Nat.two_pow_pos _)
  · rw [Int.natAbs_mul, Int.natAbs_natCast, Nat.pow_add]
    exact Nat.mul_le_mul h.den (Nat.le_of_lt h'.num)
theorem Zb.int {n : Nat} {i : Int} (h : i.natAbs < 2 ^ n) : Zb n 0 (i : Rat) := ⟨by rw [Rat.num_intCast]; exact h, by rw [Rat.den_intCast]; decide⟩
theorem Zb.ra {n d : Nat} {a : Rat} (h : Zb n d a) : Zb n d (ra a) := by
  unfold Mp.ra
  split
  · exact h.neg
  · exact h
theorem Zb.zero : Zb 0 0 (0 : Rat) := ⟨by decide, by decide⟩
theorem Zb.half : Zb 1 1 (Rat.divInt 1 2) := Zb.divInt (by decide) (by decide) (by decide)
section
variable {Γ : String → Option MDef} {k : Nat} {s : Strm} {Q : D → Strm → Prop}
theorem V_number (h1 : Γ "_law_draw" = some d__law_draw) (h : Γ "_law_pair" = some d__law_pair) (h2 : Γ "_law_number" = some d__law_number) (hs : Sok s) (q : ∀ a s', Sok s' → Zb 30 20 a → Q (pr a) s') : V (callF Γ (k + 2) "_law_number" [.strm]) s Q := by
  refine V_call h2 rfl ?_
  simp only [d__law_number]
  ((try simp only [E1, R1, N1, V_cons, bw, optI, tru, notB, V_bind, V_pure, V_guard, V_ite, V_some, V_getS, V_setS, getE, asgT, setE, setsE, kilE, wipeE, D.strips, D.strip, isNop, B1, S1, P1, List.map, List.append, List.replicate, List.set_cons_zero, List.set_cons_succ, List.getElem?_cons_zero, List.getElem?_cons_succ, List.cons_append, List.nil_append, Tg.slots, if_true, Bool.false_eq_true, if_false, reduceIte, List.length_cons, List.length_nil]); (try simp only [ne_eq, reduceCtorEq, not_false_eq_true, not_true_eq_false, true_or, or_true, false_or, or_false, true_and, and_true, isPath, G1, P1, Bool.and_true, Bool.true_and, Bool.and_self, Bool.not_true, Bool.not_false]))
  refine V_draw h1 (by decide) (by decide +kernel) hs fun v s1 k1 _ _ => ?_
  ((try simp only [E1, R1, N1, V_cons, bw, optI, tru, notB, V_bind, V_pure, V_guard, V_ite, V_some, V_getS, V_setS, getE, asgT, setE, setsE, kilE, wipeE, D.strips, D.strip, isNop, B1, S1, P1, List.map, List.append, List.replicate, List.set_cons_zero, List.set_cons_succ, List.getElem?_cons_zero, List.getElem?_cons_succ, List.cons_append, List.nil_append, Tg.slots, if_true, Bool.false_eq_true, if_false, reduceIte, List.length_cons, List.length_nil]); (try simp only [ne_eq, reduceCtorEq, not_false_eq_true, not_true_eq_false, true_or, or_true, false_or, or_false, true_and, and_true, isPath, G1, P1, Bool.and_true, Bool.true_and, Bool.and_self, Bool.not_true, Bool.not_false]))
  split
  · refine ⟨by decide, V_draw h1 (by decide) (by decide +kernel) k1 fun v s2 k2 v0 v1 => ?_⟩
    ((try simp only [E1, R1, N1, V_cons, bw, optI, tru, notB, V_bind, V_pure, V_guard, V_ite, V_some, V_getS, V_setS, getE, asgT, setE, setsE, kilE, wipeE, D.strips, D.strip, isNop, B1, S1, P1, List.map, List.append, List.replicate, List.set_cons_zero, List.set_cons_succ, List.getElem?_cons_zero, List.getElem?_cons_succ, List.cons_append, List.nil_append, Tg.slots, if_true, Bool.false_eq_true, if_false, reduceIte, List.length_cons, List.length_nil]); (try simp only [ne_eq, reduceCtorEq, not_false_eq_true, not_true_eq_false, true_or, or_true, false_or, or_false, true_and, and_true, isPath, G1, P1, Bool.and_true, Bool.true_and, Bool.and_self, Bool.not_true, Bool.not_false]))
    refine ⟨by decide, by decide +kernel, by decide, V_draw h1 (by decide) (by decide +kernel) k2 fun u s3 k3 u0 u1 => ?_⟩
    ((try simp only [E1, R1, N1, V_cons, bw, optI, tru, notB, V_bind, V_pure, V_guard, V_ite, V_some, V_getS, V_setS, getE, asgT, setE, setsE, kilE, wipeE, D.strips, D.strip, isNop, B1, S1, P1, List.map, List.append, List.replicate, List.set_cons_zero, List.set_cons_succ, List.getElem?_cons_zero, List.getElem?_cons_succ, List.cons_append, List.nil_append, Tg.slots, if_true, Bool.false_eq_true, if_false, reduceIte, List.length_cons, List.length_nil]); (try simp only [ne_eq, reduceCtorEq, not_false_eq_true, not_true_eq_false, true_or, or_true, false_or, or_false, true_and, and_true, isPath, G1, P1, Bool.and_true, Bool.true_and, Bool.and_self, Bool.not_true, Bool.not_false]))
    have e9 : (10 : Int) ^ Int.toNat 9 = 1000000000 := by decide
    have e8 : (10 : Int) ^ Int.toNat 8 = 100000000 := by decide
    have e6 : (10 : Int) ^ Int.toNat 6 = 1000000 := by decide
    rw [e9] at v1
    rw [e6] at u1
    rw [e8]
    refine V_pair h (by omega) ?_ (q _ _ k3 (Zb.divInt (by omega) (by omega) (by omega)))
    have : (1 + u).natAbs < 2 ^ 20 := by omega
    have := (Nat.log2_lt (n := (1 + u).natAbs) (by omega)).mpr this
    omega
  · refine V_draw h1 (by decide) (by decide +kernel) k1 fun v s2 k2 v0 v1 => ?_
    ((try simp only [E1, R1, N1, V_cons, bw, optI, tru, notB, V_bind, V_pure, V_guard, V_ite, V_some, V_getS, V_setS, getE, asgT, setE, setsE, kilE, wipeE, D.strips, D.strip, isNop, B1, S1, P1, List.map, List.append, List.replicate, List.set_cons_zero, List.set_cons_succ, List.getElem?_cons_zero, List.getElem?_cons_succ, List.cons_append, List.nil_append, Tg.slots, if_true, Bool.false_eq_true, if_false, reduceIte, List.length_cons, List.length_nil]); (try simp only [ne_eq, reduceCtorEq, not_false_eq_true, not_true_eq_false, true_or, or_true, false_or, or_false, true_and, and_true, isPath, G1, P1, Bool.and_true, Bool.true_and, Bool.and_self, Bool.not_true, Bool.not_false]))
    refine V_draw h1 (by decide) (by decide +kernel) k2 fun u s3 k3 u0 u1 => ?_
    have fin : ∀ m : Int, 0 < m → m ≤ 6 → V (callF Γ (k + 1) "_law_draw" [.strm, .int m]) s3 fun a_3 s' => V (binD .add (.int 1) a_3) s' fun a_4 s' => V (callF Γ (k + 1) "_law_pair" [D.int (v - 12), a_4.strip]) s' fun a_5 s' => (a_5.noShr = true ∨ a_4.noOwn = true) ∧ Q a_5 s' := by
      intro m m0 m1
      refine V_draw h1 m0 ?_ k3 fun w s4 k4 w0 w1 => ?_
      · have : m.natAbs < 2 ^ 20 := by omega
        have := (Nat.log2_lt (n := m.natAbs) (by omega)).mpr this
        omega
      · ((try simp only [E1, R1, N1, V_cons, bw, optI, tru, notB, V_bind, V_pure, V_guard, V_ite, V_some, V_getS, V_setS, getE, asgT, setE, setsE, kilE, wipeE, D.strips, D.strip, isNop, B1, S1, P1, List.map, List.append, List.replicate, List.set_cons_zero, List.set_cons_succ, List.getElem?_cons_zero, List.getElem?_cons_succ, List.cons_append, List.nil_append, Tg.slots, if_true, Bool.false_eq_true, if_false, reduceIte, List.length_cons, List.length_nil]); (try simp only [ne_eq, reduceCtorEq, not_false_eq_true, not_true_eq_false, true_or, or_true, false_or, or_false, true_and, and_true, isPath, G1, P1, Bool.and_true, Bool.true_and, Bool.and_self, Bool.not_true, Bool.not_false]))
        refine V_pair h (by omega) ?_ (q _ _ k4 (Zb.divInt (by omega) (by omega) (by omega)))
        have : (1 + w).natAbs < 2 ^ 20 := by omega
        have := (Nat.log2_lt (n := (1 + w).natAbs) (by omega)).mpr this
        omega
    have hu : u = 0 ∨ u = 1 := by omega
    rcases hu with rfl | rfl
    · ((try simp only [E1, R1, N1, V_cons, bw, optI, tru, notB, V_bind, V_pure, V_guard, V_ite, V_some, V_getS, V_setS, getE, asgT, setE, setsE, kilE, wipeE, D.strips, D.strip, isNop, B1, S1, P1, List.map, List.append, List.replicate, List.set_cons_zero, List.set_cons_succ, List.getElem?_cons_zero, List.getElem?_cons_succ, List.cons_append, List.nil_append, Tg.slots, if_true, Bool.false_eq_true, if_false, reduceIte, List.length_cons, List.length_nil]); (try simp only [ne_eq, reduceCtorEq, not_false_eq_true, not_true_eq_false, true_or, or_true, false_or, or_false, true_and, and_true, isPath, G1, P1, Bool.and_true, Bool.true_and, Bool.and_self, Bool.not_true, Bool.not_false]))
      have := fin 1 (by decide) (by decide)
      ((try simp only [E1, R1, N1, V_cons, bw, optI, tru, notB, V_bind, V_pure, V_guard, V_ite, V_some, V_getS, V_setS, getE, asgT, setE, setsE, kilE, wipeE, D.strips, D.strip, isNop, B1, S1, P1, List.map, List.append, List.replicate, List.set_cons_zero, List.set_cons_succ, List.getElem?_cons_zero, List.getElem?_cons_succ, List.cons_append, List.nil_append, Tg.slots, if_true, Bool.false_eq_true, if_false, reduceIte, List.length_cons, List.length_nil]); (try simp only [ne_eq, reduceCtorEq, not_false_eq_true, not_true_eq_false, true_or, or_true, false_or, or_false, true_and, and_true, isPath, G1, P1, Bool.and_true, Bool.true_and, Bool.and_self, Bool.not_true, Bool.not_false]))
      exact this
    · ((try simp only [E1, R1, N1, V_cons, bw, optI, tru, notB, V_bind, V_pure, V_guard, V_ite, V_some, V_getS, V_setS, getE, asgT, setE, setsE, kilE, wipeE, D.strips, D.strip, isNop, B1, S1, P1, List.map, List.append, List.replicate, List.set_cons_zero, List.set_cons_succ, List.getElem?_cons_zero, List.getElem?_cons_succ, List.cons_append, List.nil_append, Tg.slots, if_true, Bool.false_eq_true, if_false, reduceIte, List.length_cons, List.length_nil]); (try simp only [ne_eq, reduceCtorEq, not_false_eq_true, not_true_eq_false, true_or, or_true, false_or, or_false, true_and, and_true, isPath, G1, P1, Bool.and_true, Bool.true_and, Bool.and_self, Bool.not_true, Bool.not_false]))
      exact fin 6 (by decide) (by decide)
end
end Mp

namespace Mp
open PySem (Str CmpOp)
/-! ### moves -/
def d_half : MDef := ⟨1, 1, (.cons (.ret (.bin .mul (.var 0) (.mk (.cons (.int 1) (.cons (.int 2) .nil))))) .nil)⟩
def d_pieces : MDef := ⟨1, 7, (.cons (.asg (.nm 1) (.lst .nil)) (.cons (.asg (.nm 2) (.mk (.cons (.int 0) .nil))) (.cons (.asg (.nm 3) (.mk (.cons (.int 0) .nil))) (.cons (.asg (.nm 4) (.mk (.cons (.int 0) .nil))) (.cons (.loop (.tup [5, 6]) (.seq (.var 0)) (.cons (.app 1 (.tup (.cons (.var 2) (.cons (.bin .add (.var 2) (.var 5)) (.cons (.var 3) (.cons (.var 4) (.cons (.var 6) .nil))))))) (.cons (.asg (.nm 3) (.bin .add (.bin .add (.var 3) (.bin .mul (.var 4) (.var 5))) (.bin .mul (.bin .mul (.call "half" (.cons (.var 6) .nil)) (.var 5)) (.var 5)))) (.cons (.asg (.nm 4) (.bin .add (.var 4) (.bin .mul (.var 6) (.var 5)))) (.cons (.asg (.nm 2) (.bin .add (.var 2) (.var 5))) .nil)))) [5, 6]) (.cons (.retv 1) .nil))))))⟩
def d_total : MDef := ⟨1, 3, (.cons (.asg (.nm 1) (.mk (.cons (.int 0) .nil))) (.cons (.loop (.nm 2) (.seq (.var 0)) (.cons (.asg (.nm 1) (.bin .add (.var 1) (.var 2))) .nil) [2]) (.cons (.ret (.var 1)) .nil)))⟩
def d_length : MDef := ⟨1, 2, (.cons (.ret (.call "total" (.cons (.lc (.nm 1) (.seq (.var 0)) .nop (.ix (.var 1) (.int 0))) .nil))) .nil)⟩
def d_is_less : MDef := ⟨2, 2, (.cons (.ret (.cmp .Lt (.bin .mul (.top (.var 0)) (.bot (.var 1))) (.bin .mul (.top (.var 1)) (.bot (.var 0))))) .nil)⟩
def d_is_negative : MDef := ⟨1, 1, (.cons (.ret (.cmp .Lt (.top (.var 0)) (.int 0))) .nil)⟩
def d_state_at : MDef := ⟨2, 9, (.cons (.ite (.call "is_negative" (.cons (.var 1) .nil)) (.cons (.ret (.tup (.cons (.mk (.cons (.int 0) .nil)) (.cons (.mk (.cons (.int 0) .nil)) .nil)))) .nil) .nil) (.cons (.asg (.nm 2) (.call "pieces" (.cons (.var 0) .nil))) (.cons (.frz 2) (.cons (.loop (.tup [3, 4, 5, 6, 7]) (.seq (.var 2)) (.cons (.ite (.not (.call "is_less" (.cons (.var 4) (.cons (.var 1) .nil)))) (.cons (.asg (.nm 8) (.bin .sub (.var 1) (.var 3))) (.cons (.ret (.tup (.cons (.bin .add (.bin .add (.var 5) (.bin .mul (.var 6) (.var 8))) (.bin .mul (.bin .mul (.call "half" (.cons (.var 7) .nil)) (.var 8)) (.var 8))) (.cons (.bin .add (.var 6) (.bin .mul (.var 7) (.var 8))) .nil)))) .nil)) .nil) .nil) [3, 4, 5, 6, 7, 8]) (.cons (.asg (.tup [3, 4, 5, 6, 7]) (.ix (.var 2) (.neg (.int 1)))) (.cons (.asg (.nm 8) (.bin .sub (.var 4) (.var 3))) (.cons (.ret (.tup (.cons (.bin .add (.bin .add (.var 5) (.bin .mul (.var 6) (.var 8))) (.bin .mul (.bin .mul (.call "half" (.cons (.var 7) .nil)) (.var 8)) (.var 8))) (.cons (.mk (.cons (.int 0) .nil)) .nil)))) .nil)))))))⟩
def d__law_move : MDef := ⟨1, 6, (.cons (.asg (.nm 1) (.lst .nil)) (.cons (.asg (.nm 2) (.tup (.cons (.int 0) (.cons (.int 1) .nil)))) (.cons (.loop (.nm 3) (.rng (.call "_law_draw" (.cons (.var 0) (.cons (.int 6) .nil)))) (.cons (.asg (.nm 4) (.tup (.cons (.call "_law_some" (.cons (.var 0) .nil)) (.cons (.call "_law_number" (.cons (.var 0) .nil)) .nil)))) (.cons (.asg (.nm 2) (.call "_law_sum" (.cons (.var 2) (.cons (.call "_law_times" (.cons (.ix (.var 4) (.int 0)) (.cons (.ix (.var 4) (.int 1)) .nil))) .nil)))) (.cons (.app 1 (.var 4)) .nil))) [3, 4]) (.cons (.asg (.nm 5) (.call "_law_some" (.cons (.var 0) .nil))) (.cons (.app 1 (.tup (.cons (.var 5) (.cons (.call "_law_minus" (.cons (.call "_law_over" (.cons (.var 2) (.cons (.var 5) .nil))) .nil)) .nil)))) (.cons (.retv 1) .nil))))))⟩
def d__law_made : MDef := ⟨1, 2, (.cons (.ret (.bi .tuple (.cons (.lc (.nm 1) (.seq (.var 0)) .nop (.tup (.cons (.call "_law_ratio" (.cons (.ix (.var 1) (.int 0)) .nil)) (.cons (.call "_law_ratio" (.cons (.ix (.var 1) (.int 1)) .nil)) .nil)))) .nil))) .nil)⟩
def d__law_after : MDef := ⟨4, 5, (.cons (.asg (.nm 4) (.call "_law_times" (.cons (.tup (.cons (.int 1) (.cons (.int 2) .nil))) (.cons (.call "_law_times" (.cons (.var 2) (.cons (.call "_law_times" (.cons (.var 3) (.cons (.var 3) .nil))) .nil))) .nil)))) (.cons (.ret (.lst (.cons (.call "_law_sum" (.cons (.var 0) (.cons (.call "_law_sum" (.cons (.call "_law_times" (.cons (.var 1) (.cons (.var 3) .nil))) (.cons (.var 4) .nil))) .nil))) (.cons (.call "_law_sum" (.cons (.var 1) (.cons (.call "_law_times" (.cons (.var 2) (.cons (.var 3) .nil))) .nil))) .nil)))) .nil))⟩
def d__law_pieces : MDef := ⟨1, 8, (.cons (.asg (.nm 1) (.lst .nil)) (.cons (.asg (.nm 2) (.tup (.cons (.int 0) (.cons (.int 1) .nil)))) (.cons (.asg (.nm 3) (.tup (.cons (.int 0) (.cons (.int 1) .nil)))) (.cons (.asg (.nm 4) (.tup (.cons (.int 0) (.cons (.int 1) .nil)))) (.cons (.loop (.tup [5, 6]) (.seq (.var 0)) (.cons (.asg (.nm 7) (.call "_law_sum" (.cons (.var 2) (.cons (.var 5) .nil)))) (.cons (.app 1 (.tup (.cons (.var 2) (.cons (.var 7) (.cons (.var 3) (.cons (.var 4) (.cons (.var 6) .nil))))))) (.cons (.asg (.tup [3, 4]) (.call "_law_after" (.cons (.var 3) (.cons (.var 4) (.cons (.var 6) (.cons (.var 5) .nil)))))) (.cons (.asg (.nm 2) (.var 7)) .nil)))) [5, 6, 7]) (.cons (.app 1 (.tup (.cons (.var 2) (.cons (.var 2) (.cons (.var 3) (.cons (.tup (.cons (.int 0) (.cons (.int 1) .nil))) (.cons (.tup (.cons (.int 0) (.cons (.int 1) .nil))) .nil))))))) (.cons (.retv 1) .nil)))))))⟩
def d__law_length : MDef := ⟨1, 3, (.cons (.asg (.nm 1) (.tup (.cons (.int 0) (.cons (.int 1) .nil)))) (.cons (.loop (.nm 2) (.seq (.var 0)) (.cons (.asg (.nm 1) (.call "_law_sum" (.cons (.var 1) (.cons (.ix (.var 2) (.int 0)) .nil)))) .nil) [2]) (.cons (.ret (.var 1)) .nil)))⟩
def d_size_of : MDef := ⟨1, 1, (.cons (.ite (.cmp .Lt (.top (.var 0)) (.int 0)) (.cons (.ret (.neg (.var 0))) .nil) .nil) (.cons (.ret (.var 0)) .nil))⟩
def d__law_time : MDef := ⟨2, 6, (.cons (.asg (.nm 2) (.call "_law_draw" (.cons (.var 0) (.cons (.int 6) .nil)))) (.cons (.asg (.nm 3) (.lc (.nm 4) (.seq (.call "_law_pieces" (.cons (.var 1) .nil))) .nop (.ix (.var 4) (.int 0)))) (.cons (.asg (.nm 5) (.ix (.var 3) (.call "_law_draw" (.cons (.var 0) (.cons (.bi .len (.cons (.var 3) .nil)) .nil))))) (.cons (.ite (.cmp .Eq (.var 2) (.int 0)) (.cons (.ret (.call "_law_number" (.cons (.var 0) .nil))) .nil) .nil) (.cons (.ite (.cmp .Eq (.var 2) (.int 1)) (.cons (.ret (.var 5)) .nil) .nil) (.cons (.ite (.cmp .Eq (.var 2) (.int 2)) (.cons (.ret (.call "_law_sum" (.cons (.var 5) (.cons (.call "_law_pair" (.cons (.int 1) (.cons (.bin .add (.int 1) (.call "_law_draw" (.cons (.var 0) (.cons (.int 1000) .nil)))) .nil))) .nil)))) .nil) .nil) (.cons (.ite (.cmp .Eq (.var 2) (.int 3)) (.cons (.ret (.call "_law_sum" (.cons (.var 5) (.cons (.call "_law_pair" (.cons (.neg (.int 1)) (.cons (.bin .add (.int 1) (.call "_law_draw" (.cons (.var 0) (.cons (.int 1000) .nil)))) .nil))) .nil)))) .nil) .nil) (.cons (.ret (.call "_law_over" (.cons (.call "_law_times" (.cons (.call "_law_length" (.cons (.var 1) .nil)) (.cons (.tup (.cons (.call "_law_draw" (.cons (.var 0) (.cons (.int 19) .nil))) (.cons (.int 1) .nil))) .nil))) (.cons (.tup (.cons (.int 16) (.cons (.int 1) .nil))) .nil)))) .nil))))))))⟩
def d__law_state : MDef := ⟨2, 9, (.cons (.asg (.nm 2) (.lst (.cons (.tup (.cons (.int 0) (.cons (.int 1) .nil))) (.cons (.tup (.cons (.int 0) (.cons (.int 1) .nil))) .nil)))) (.cons (.loop (.tup [3, 4, 5, 6, 7]) (.seq (.call "_law_pieces" (.cons (.var 0) .nil))) (.cons (.ite (.not (.call "_law_less" (.cons (.var 1) (.cons (.var 3) .nil)))) (.cons (.asg (.nm 8) (.call "_law_sum" (.cons (.var 1) (.cons (.call "_law_minus" (.cons (.var 3) .nil)) .nil)))) (.cons (.asg (.nm 2) (.call "_law_after" (.cons (.var 5) (.cons (.var 6) (.cons (.var 7) (.cons (.var 8) .nil)))))) .nil)) .nil) .nil) [3, 4, 5, 6, 7, 8]) (.cons (.retv 2) .nil)))⟩
section
variable {Γ : String → Option MDef} {k : Nat} {s : Strm} {Q : D → Strm → Prop}
theorem V_some1 (hd : Γ "_law_draw" = some d__law_draw) (hp : Γ "_law_pair" = some d__law_pair) (hn : Γ "_law_number" = some d__law_number) (hz : Γ "_law_size" = some d__law_size) (h2 : Γ "_law_some" = some d__law_some) (hs : Sok s)
    (q : ∀ a s', Sok s' → Zb 30 20 a → 0 < a → Q (pr a) s') : V (callF Γ (k + 3) "_law_some" [.strm]) s Q := by
  refine V_call h2 rfl ?_
  simp only [d__law_some]
  ((try simp only [E1, R1, N1, V_cons, bw, optI, tru, notB, V_bind, V_pure, V_guard, V_ite, V_some, V_getS, V_setS, getE, asgT, setE, setsE, kilE, wipeE, D.strips, D.strip, isNop, B1, S1, P1, List.map, List.append, List.replicate, List.set_cons_zero, List.set_cons_succ, List.getElem?_cons_zero, List.getElem?_cons_succ, List.cons_append, List.nil_append, Tg.slots, if_true, Bool.false_eq_true, if_false, reduceIte, List.length_cons, List.length_nil]); (try simp only [ne_eq, reduceCtorEq, not_false_eq_true, not_true_eq_false, true_or, or_true, false_or, or_false, true_and, and_true, isPath, G1, P1, Bool.and_true, Bool.true_and, Bool.and_self, Bool.not_true, Bool.not_false]))
  refine V_number hd hp hn hs fun a s1 k1 za => ?_
  ((try simp only [E1, R1, N1, V_cons, bw, optI, tru, notB, V_bind, V_pure, V_guard, V_ite, V_some, V_getS, V_setS, getE, asgT, setE, setsE, kilE, wipeE, D.strips, D.strip, isNop, B1, S1, P1, List.map, List.append, List.replicate, List.set_cons_zero, List.set_cons_succ, List.getElem?_cons_zero, List.getElem?_cons_succ, List.cons_append, List.nil_append, Tg.slots, if_true, Bool.false_eq_true, if_false, reduceIte, List.length_cons, List.length_nil]); (try simp only [ne_eq, reduceCtorEq, not_false_eq_true, not_true_eq_false, true_or, or_true, false_or, or_false, true_and, and_true, isPath, G1, P1, Bool.and_true, Bool.true_and, Bool.and_self, Bool.not_true, Bool.not_false]))
  refine V_size hz ?_
  ((try simp only [E1, R1, N1, V_cons, bw, optI, tru, notB, V_bind, V_pure, V_guard, V_ite, V_some, V_getS, V_setS, getE, asgT, setE, setsE, kilE, wipeE, D.strips, D.strip, isNop, B1, S1, P1, List.map, List.append, List.replicate, List.set_cons_zero, List.set_cons_succ, List.getElem?_cons_zero, List.getElem?_cons_succ, List.cons_append, List.nil_append, Tg.slots, if_true, Bool.false_eq_true, if_false, reduceIte, List.length_cons, List.length_nil]); (try simp only [ne_eq, reduceCtorEq, not_false_eq_true, not_true_eq_false, true_or, or_true, false_or, or_false, true_and, and_true, isPath, G1, P1, Bool.and_true, Bool.true_and, Bool.and_self, Bool.not_true, Bool.not_false]))
  have nn : 0 ≤ ra a := by
    unfold ra
    split
    · rename_i h; have := Rat.neg_lt_neg h; grind
    · rename_i h; exact Rat.not_lt.mp h
  have zr := za.ra
  generalize ra a = b at nn zr ⊢
  split
  · rename_i h0
    have h0 : b = 0 := Rat.num_eq_zero.mp (by simpa using h0)
    subst h0
    exact q 1 s1 k1 ⟨by decide +kernel, by decide +kernel⟩ (by decide +kernel)
  · rename_i h0
    refine q b s1 k1 zr ?_
    have : b ≠ 0 := fun z => h0 (by rw [z]; rfl)
    grind
def encR (r : Rat × Rat) : D := .tup [pr r.1, pr r.2]
structure Rw (r : Rat × Rat) : Prop where
  d : Zb 30 20 r.1
  pos : 0 < r.1
  a : Zb 30 20 r.2
/-- the speed behind these rows -/
def vSum (rs : List (Rat × Rat)) : Rat := rs.foldl (fun v r => v + r.2 * r.1) 0
theorem vSum_snoc (rs : List (Rat × Rat)) (d a : Rat) : vSum (rs ++ [(d, a)]) = vSum rs + a * d := by
  unfold vSum
  rw [List.foldl_append]
  rfl
structure MoveOk (rs : List (Rat × Rat)) (d a : Rat) : Prop where
  stop : vSum rs + a * d = 0
  len : rs.length ≤ 5
  all : ∀ r ∈ rs, Rw r
  zd : Zb 30 20 d
  pos : 0 < d
  za : Zb 287 230 a
theorem noOwns_encR : ∀ (rs : List (Rat × Rat)), D.noOwns (rs.map encR) = true
  | [] => rfl
  | r :: rs => noOwns_encR rs
theorem noShrs_encR : ∀ (rs : List (Rat × Rat)), D.noShrs (rs.map encR) = true
  | [] => rfl
  | r :: rs => noShrs_encR rs
theorem strips_encR : ∀ (rs : List (Rat × Rat)), D.strips (rs.map encR) = rs.map encR
  | [] => rfl
  | r :: rs => congrArg (encR r :: ·) (strips_encR rs)
theorem V_move (hd : Γ "_law_draw" = some d__law_draw) (hp : Γ "_law_pair" = some d__law_pair) (hn : Γ "_law_number" = some d__law_number) (hz : Γ "_law_size" = some d__law_size) (hs1 : Γ "_law_some" = some d__law_some) (hsu : Γ "_law_sum" = some d__law_sum) (hti : Γ "_law_times" = some d__law_times) (hov : Γ "_law_over" = some d__law_over) (hmi : Γ "_law_minus" = some d__law_minus)
    (h2 : Γ "_law_move" = some d__law_move) (hs : Sok s) (q : ∀ rs d a s', Sok s' → MoveOk rs d a → Q (.lst true ((rs ++ [(d, a)]).map encR)) s') : V (callF Γ (k + 4) "_law_move" [.strm]) s Q := by
  refine V_call h2 rfl ?_
  simp only [d__law_move]
  ((try simp only [E1, R1, N1, V_cons, bw, optI, tru, notB, V_bind, V_pure, V_guard, V_ite, V_some, V_getS, V_setS, getE, asgT, setE, setsE, kilE, wipeE, D.strips, D.strip, isNop, B1, S1, P1, List.map, List.append, List.replicate, List.set_cons_zero, List.set_cons_succ, List.getElem?_cons_zero, List.getElem?_cons_succ, List.cons_append, List.nil_append, Tg.slots, if_true, Bool.false_eq_true, if_false, reduceIte, List.length_cons, List.length_nil]); (try simp only [ne_eq, reduceCtorEq, not_false_eq_true, not_true_eq_false, true_or, or_true, false_or, or_false, true_and, and_true, isPath, G1, P1, Bool.and_true, Bool.true_and, Bool.and_self, Bool.not_true, Bool.not_false]))
  refine V_draw hd (by decide) (by decide +kernel) hs fun v s1 k1 v0 v1 => ?_
  ((try simp only [E1, R1, N1, V_cons, bw, optI, tru, notB, V_bind, V_pure, V_guard, V_ite, V_some, V_getS, V_setS, getE, asgT, setE, setsE, kilE, wipeE, D.strips, D.strip, isNop, B1, S1, P1, List.map, List.append, List.replicate, List.set_cons_zero, List.set_cons_succ, List.getElem?_cons_zero, List.getElem?_cons_succ, List.cons_append, List.nil_append, Tg.slots, if_true, Bool.false_eq_true, if_false, reduceIte, List.length_cons, List.length_nil]); (try simp only [ne_eq, reduceCtorEq, not_false_eq_true, not_true_eq_false, true_or, or_true, false_or, or_false, true_and, and_true, isPath, G1, P1, Bool.and_true, Bool.true_and, Bool.and_self, Bool.not_true, Bool.not_false]))
  refine ⟨⟨by have : (LIM : Int) = 1000000 := rfl; omega, by have : (LIM : Int) = 1000000 := rfl; omega⟩, ?_⟩
  have no : D.noOwns (rangeD 0 v.toNat) = true := by
    unfold rangeD
    generalize List.range v.toNat = xs
    induction xs with
    | nil => rfl
    | cons x xs ih => exact ih
  refine ⟨no, ?_⟩
  refine V_for (fun i e t => Sok t ∧ i ≤ 5 ∧ ∃ rs sp, e = [some .strm, some (.lst true (rs.map encR)), some (pr sp), none, none, none] ∧ rs.length = i ∧ (∀ r ∈ rs, Rw r) ∧ sp = vSum rs ∧ Zb (62 + 41 * i) (40 * i) sp) _ 0 ⟨k1, by omega, [], 0, rfl, rfl, by simp, rfl, Zb.zero.mono (by omega) (by omega)⟩ ?_ ?_
  · rintro j x e t hx ⟨kt, hj, rs, sp, rfl, hl, hr, es, zs⟩
    rw [Nat.zero_add] at hj hl zs ⊢
    have hj4 : j + 1 ≤ 5 := by
      have := (List.getElem?_eq_some_iff.mp hx).1
      unfold rangeD at this
      simp at this
      omega
    ((try simp only [E1, R1, N1, V_cons, bw, optI, tru, notB, V_bind, V_pure, V_guard, V_ite, V_some, V_getS, V_setS, getE, asgT, setE, setsE, kilE, wipeE, D.strips, D.strip, isNop, B1, S1, P1, List.map, List.append, List.replicate, List.set_cons_zero, List.set_cons_succ, List.getElem?_cons_zero, List.getElem?_cons_succ, List.cons_append, List.nil_append, Tg.slots, if_true, Bool.false_eq_true, if_false, reduceIte, List.length_cons, List.length_nil]); (try simp only [ne_eq, reduceCtorEq, not_false_eq_true, not_true_eq_false, true_or, or_true, false_or, or_false, true_and, and_true, isPath, G1, P1, Bool.and_true, Bool.true_and, Bool.and_self, Bool.not_true, Bool.not_false]))
    rw [Bdy_eq]
    ((try simp only [E1, R1, N1, V_cons, bw, optI, tru, notB, V_bind, V_pure, V_guard, V_ite, V_some, V_getS, V_setS, getE, asgT, setE, setsE, kilE, wipeE, D.strips, D.strip, isNop, B1, S1, P1, List.map, List.append, List.replicate, List.set_cons_zero, List.set_cons_succ, List.getElem?_cons_zero, List.getElem?_cons_succ, List.cons_append, List.nil_append, Tg.slots, if_true, Bool.false_eq_true, if_false, reduceIte, List.length_cons, List.length_nil]); (try simp only [ne_eq, reduceCtorEq, not_false_eq_true, not_true_eq_false, true_or, or_true, false_or, or_false, true_and, and_true, isPath, G1, P1, Bool.and_true, Bool.true_and, Bool.and_self, Bool.not_true, Bool.not_false]))
    refine V_some1 hd hp hn hz hs1 kt fun d s2 k2 zd pd => ?_
    ((try simp only [E1, R1, N1, V_cons, bw, optI, tru, notB, V_bind, V_pure, V_guard, V_ite, V_some, V_getS, V_setS, getE, asgT, setE, setsE, kilE, wipeE, D.strips, D.strip, isNop, B1, S1, P1, List.map, List.append, List.replicate, List.set_cons_zero, List.set_cons_succ, List.getElem?_cons_zero, List.getElem?_cons_succ, List.cons_append, List.nil_append, Tg.slots, if_true, Bool.false_eq_true, if_false, reduceIte, List.length_cons, List.length_nil]); (try simp only [ne_eq, reduceCtorEq, not_false_eq_true, not_true_eq_false, true_or, or_true, false_or, or_false, true_and, and_true, isPath, G1, P1, Bool.and_true, Bool.true_and, Bool.and_self, Bool.not_true, Bool.not_false]))
    refine V_number hd hp hn k2 fun a s3 k3 za => ?_
    ((try simp only [E1, R1, N1, V_cons, bw, optI, tru, notB, V_bind, V_pure, V_guard, V_ite, V_some, V_getS, V_setS, getE, asgT, setE, setsE, kilE, wipeE, D.strips, D.strip, isNop, B1, S1, P1, List.map, List.append, List.replicate, List.set_cons_zero, List.set_cons_succ, List.getElem?_cons_zero, List.getElem?_cons_succ, List.cons_append, List.nil_append, Tg.slots, if_true, Bool.false_eq_true, if_false, reduceIte, List.length_cons, List.length_nil]); (try simp only [ne_eq, reduceCtorEq, not_false_eq_true, not_true_eq_false, true_or, or_true, false_or, or_false, true_and, and_true, isPath, G1, P1, Bool.and_true, Bool.true_and, Bool.and_self, Bool.not_true, Bool.not_false]))
    refine V_times hp hti (zd.sm (by decide) (by decide)) (za.sm (by decide) (by decide)) ?_
    ((try simp only [E1, R1, N1, V_cons, bw, optI, tru, notB, V_bind, V_pure, V_guard, V_ite, V_some, V_getS, V_setS, getE, asgT, setE, setsE, kilE, wipeE, D.strips, D.strip, isNop, B1, S1, P1, List.map, List.append, List.replicate, List.set_cons_zero, List.set_cons_succ, List.getElem?_cons_zero, List.getElem?_cons_succ, List.cons_append, List.nil_append, Tg.slots, if_true, Bool.false_eq_true, if_false, reduceIte, List.length_cons, List.length_nil]); (try simp only [ne_eq, reduceCtorEq, not_false_eq_true, not_true_eq_false, true_or, or_true, false_or, or_false, true_and, and_true, isPath, G1, P1, Bool.and_true, Bool.true_and, Bool.and_self, Bool.not_true, Bool.not_false]))
    have zda := zd.mul za
    refine V_sum hp hsu (zs.sm (by omega) (by omega)) (zda.sm (by decide) (by decide)) ?_
    ((try simp only [E1, R1, N1, V_cons, bw, optI, tru, notB, V_bind, V_pure, V_guard, V_ite, V_some, V_getS, V_setS, getE, asgT, setE, setsE, kilE, wipeE, D.strips, D.strip, isNop, B1, S1, P1, List.map, List.append, List.replicate, List.set_cons_zero, List.set_cons_succ, List.getElem?_cons_zero, List.getElem?_cons_succ, List.cons_append, List.nil_append, Tg.slots, if_true, Bool.false_eq_true, if_false, reduceIte, List.length_cons, List.length_nil]); (try simp only [ne_eq, reduceCtorEq, not_false_eq_true, not_true_eq_false, true_or, or_true, false_or, or_false, true_and, and_true, isPath, G1, P1, Bool.and_true, Bool.true_and, Bool.and_self, Bool.not_true, Bool.not_false]))
    ((try simp only [E1, R1, N1, V_cons, bw, optI, tru, notB, V_bind, V_pure, V_guard, V_ite, V_some, V_getS, V_setS, getE, asgT, setE, setsE, kilE, wipeE, D.strips, D.strip, isNop, B1, S1, P1, List.map, List.append, List.replicate, List.set_cons_zero, List.set_cons_succ, List.getElem?_cons_zero, List.getElem?_cons_succ, List.cons_append, List.nil_append, Tg.slots, if_true, Bool.false_eq_true, if_false, reduceIte, List.length_cons, List.length_nil]); (try simp only [ne_eq, reduceCtorEq, not_false_eq_true, not_true_eq_false, true_or, or_true, false_or, or_false, true_and, and_true, isPath, G1, P1, Bool.and_true, Bool.true_and, Bool.and_self, Bool.not_true, Bool.not_false]))
    refine ⟨by rw [List.length_map, hl]; exact Nat.lt_of_le_of_lt hj (by decide), k3, hj4, rs ++ [(d, a)], sp + d * a, ?_, by rw [List.length_append, hl]; rfl, ?_, by rw [vSum_snoc, es, Rat.mul_comm], (zs.add zda).mono (by omega) (by omega)⟩
    · rw [List.map_append]
      rfl
    · intro r hr'
      rcases List.mem_append.mp hr' with h | h
      · exact hr r h
      · cases List.mem_singleton.mp h
        exact ⟨zd, pd, za⟩
  · rintro e t ⟨kt, hi, rs, sp, rfl, hl, hr, es, zs⟩
    ((try simp only [E1, R1, N1, V_cons, bw, optI, tru, notB, V_bind, V_pure, V_guard, V_ite, V_some, V_getS, V_setS, getE, asgT, setE, setsE, kilE, wipeE, D.strips, D.strip, isNop, B1, S1, P1, List.map, List.append, List.replicate, List.set_cons_zero, List.set_cons_succ, List.getElem?_cons_zero, List.getElem?_cons_succ, List.cons_append, List.nil_append, Tg.slots, if_true, Bool.false_eq_true, if_false, reduceIte, List.length_cons, List.length_nil]); (try simp only [ne_eq, reduceCtorEq, not_false_eq_true, not_true_eq_false, true_or, or_true, false_or, or_false, true_and, and_true, isPath, G1, P1, Bool.and_true, Bool.true_and, Bool.and_self, Bool.not_true, Bool.not_false]))
    refine V_some1 hd hp hn hz hs1 kt fun d s2 k2 zd pd => ?_
    ((try simp only [E1, R1, N1, V_cons, bw, optI, tru, notB, V_bind, V_pure, V_guard, V_ite, V_some, V_getS, V_setS, getE, asgT, setE, setsE, kilE, wipeE, D.strips, D.strip, isNop, B1, S1, P1, List.map, List.append, List.replicate, List.set_cons_zero, List.set_cons_succ, List.getElem?_cons_zero, List.getElem?_cons_succ, List.cons_append, List.nil_append, Tg.slots, if_true, Bool.false_eq_true, if_false, reduceIte, List.length_cons, List.length_nil]); (try simp only [ne_eq, reduceCtorEq, not_false_eq_true, not_true_eq_false, true_or, or_true, false_or, or_false, true_and, and_true, isPath, G1, P1, Bool.and_true, Bool.true_and, Bool.and_self, Bool.not_true, Bool.not_false]))
    have hz5 : Zb 267 200 sp := zs.mono (by omega) (by omega)
    have hd0 : d ≠ 0 := by intro z; subst z; exact absurd pd (by decide +kernel)
    refine V_over hp hov hd0 (hz5.sm (by decide) (by decide)) (zd.sm (by decide) (by decide)) ?_
    ((try simp only [E1, R1, N1, V_cons, bw, optI, tru, notB, V_bind, V_pure, V_guard, V_ite, V_some, V_getS, V_setS, getE, asgT, setE, setsE, kilE, wipeE, D.strips, D.strip, isNop, B1, S1, P1, List.map, List.append, List.replicate, List.set_cons_zero, List.set_cons_succ, List.getElem?_cons_zero, List.getElem?_cons_succ, List.cons_append, List.nil_append, Tg.slots, if_true, Bool.false_eq_true, if_false, reduceIte, List.length_cons, List.length_nil]); (try simp only [ne_eq, reduceCtorEq, not_false_eq_true, not_true_eq_false, true_or, or_true, false_or, or_false, true_and, and_true, isPath, G1, P1, Bool.and_true, Bool.true_and, Bool.and_self, Bool.not_true, Bool.not_false]))
    refine V_minus hmi ?_
    ((try simp only [E1, R1, N1, V_cons, bw, optI, tru, notB, V_bind, V_pure, V_guard, V_ite, V_some, V_getS, V_setS, getE, asgT, setE, setsE, kilE, wipeE, D.strips, D.strip, isNop, B1, S1, P1, List.map, List.append, List.replicate, List.set_cons_zero, List.set_cons_succ, List.getElem?_cons_zero, List.getElem?_cons_succ, List.cons_append, List.nil_append, Tg.slots, if_true, Bool.false_eq_true, if_false, reduceIte, List.length_cons, List.length_nil]); (try simp only [ne_eq, reduceCtorEq, not_false_eq_true, not_true_eq_false, true_or, or_true, false_or, or_false, true_and, and_true, isPath, G1, P1, Bool.and_true, Bool.true_and, Bool.and_self, Bool.not_true, Bool.not_false]))
    refine ⟨by rw [List.length_map, hl]; exact Nat.lt_of_le_of_lt hi (by decide), ?_⟩
    have := q rs d (-(sp / d)) s2 k2 ⟨by rw [← es]; grind, by rw [hl]; exact hi, hr, zd, pd, (hz5.div hd0 zd).neg⟩
    rw [List.map_append] at this
    exact this
/-! ### the law's reading of a move -/
theorem V_made (hra : Γ "_law_ratio" = some d__law_ratio) (h2 : Γ "_law_made" = some d__law_made) {rs : List (Rat × Rat)} (hz : ∀ r ∈ rs, Sm r.1 ∧ Sm r.2) (hl : rs.length ≤ LIM) (q : Q (.tup (rs.map fun r => .tup [.rat r.1, .rat r.2])) s) : V (callF Γ (k + 2) "_law_made" [.lst false (rs.map encR)]) s Q := by
  refine V_call h2 rfl ?_
  simp only [d__law_made]
  ((try simp only [E1, R1, N1, V_cons, bw, optI, tru, notB, V_bind, V_pure, V_guard, V_ite, V_some, V_getS, V_setS, getE, asgT, setE, setsE, kilE, wipeE, D.strips, D.strip, isNop, B1, S1, P1, List.map, List.append, List.replicate, List.set_cons_zero, List.set_cons_succ, List.getElem?_cons_zero, List.getElem?_cons_succ, List.cons_append, List.nil_append, Tg.slots, if_true, Bool.false_eq_true, if_false, reduceIte, List.length_cons, List.length_nil]); (try simp only [ne_eq, reduceCtorEq, not_false_eq_true, not_true_eq_false, true_or, or_true, false_or, or_false, true_and, and_true, isPath, G1, P1, Bool.and_true, Bool.true_and, Bool.and_self, Bool.not_true, Bool.not_false]))
  refine ⟨noOwns_encR rs, ⟨by rw [List.length_map]; exact hl, noOwns_encR rs⟩, ?_⟩
  refine V_map (g := fun x => match x with | .tup [.tup [.int a, .int b], .tup [.int c, .int d]] => .tup [.rat (Rat.divInt a b), .rat (Rat.divInt c d)] | x => x) _ (fun x hx R hR => ?_) ?_
  · obtain ⟨r, hr, rfl⟩ := List.mem_map.mp hx
    obtain ⟨z1, z2⟩ := hz r hr
    rw [Elm_eq]
    unfold encR
    ((try simp only [E1, R1, N1, V_cons, bw, optI, tru, notB, V_bind, V_pure, V_guard, V_ite, V_some, V_getS, V_setS, getE, asgT, setE, setsE, kilE, wipeE, D.strips, D.strip, isNop, B1, S1, P1, List.map, List.append, List.replicate, List.set_cons_zero, List.set_cons_succ, List.getElem?_cons_zero, List.getElem?_cons_succ, List.cons_append, List.nil_append, Tg.slots, if_true, Bool.false_eq_true, if_false, reduceIte, List.length_cons, List.length_nil]); (try simp only [ne_eq, reduceCtorEq, not_false_eq_true, not_true_eq_false, true_or, or_true, false_or, or_false, true_and, and_true, isPath, G1, P1, Bool.and_true, Bool.true_and, Bool.and_self, Bool.not_true, Bool.not_false]))
    refine V_ratio hra z1 ?_
    ((try simp only [E1, R1, N1, V_cons, bw, optI, tru, notB, V_bind, V_pure, V_guard, V_ite, V_some, V_getS, V_setS, getE, asgT, setE, setsE, kilE, wipeE, D.strips, D.strip, isNop, B1, S1, P1, List.map, List.append, List.replicate, List.set_cons_zero, List.set_cons_succ, List.getElem?_cons_zero, List.getElem?_cons_succ, List.cons_append, List.nil_append, Tg.slots, if_true, Bool.false_eq_true, if_false, reduceIte, List.length_cons, List.length_nil]); (try simp only [ne_eq, reduceCtorEq, not_false_eq_true, not_true_eq_false, true_or, or_true, false_or, or_false, true_and, and_true, isPath, G1, P1, Bool.and_true, Bool.true_and, Bool.and_self, Bool.not_true, Bool.not_false]))
    refine V_ratio hra z2 ?_
    ((try simp only [E1, R1, N1, V_cons, bw, optI, tru, notB, V_bind, V_pure, V_guard, V_ite, V_some, V_getS, V_setS, getE, asgT, setE, setsE, kilE, wipeE, D.strips, D.strip, isNop, B1, S1, P1, List.map, List.append, List.replicate, List.set_cons_zero, List.set_cons_succ, List.getElem?_cons_zero, List.getElem?_cons_succ, List.cons_append, List.nil_append, Tg.slots, if_true, Bool.false_eq_true, if_false, reduceIte, List.length_cons, List.length_nil]); (try simp only [ne_eq, reduceCtorEq, not_false_eq_true, not_true_eq_false, true_or, or_true, false_or, or_false, true_and, and_true, isPath, G1, P1, Bool.and_true, Bool.true_and, Bool.and_self, Bool.not_true, Bool.not_false]))
    have : R (some (.tup [.rat (Rat.divInt r.1.num r.1.den), .rat (Rat.divInt r.2.num r.2.den)])) s := hR
    rw [Rat.num_divInt_den, Rat.num_divInt_den] at this
    exact this
  · rw [List.map_map]
    have e : (rs.map ((fun x => match x with | .tup [.tup [.int a, .int b], .tup [.int c, .int d]] => .tup [.rat (Rat.divInt a b), .rat (Rat.divInt c d)] | x => x) ∘ encR)) = rs.map fun r => D.tup [.rat r.1, .rat r.2] := by
      refine List.map_congr_left fun r _ => ?_
      show D.tup [.rat (Rat.divInt r.1.num r.1.den), .rat (Rat.divInt r.2.num r.2.den)] = _
      rw [Rat.num_divInt_den, Rat.num_divInt_den]
    rw [e]
    ((try simp only [E1, R1, N1, V_cons, bw, optI, tru, notB, V_bind, V_pure, V_guard, V_ite, V_some, V_getS, V_setS, getE, asgT, setE, setsE, kilE, wipeE, D.strips, D.strip, isNop, B1, S1, P1, List.map, List.append, List.replicate, List.set_cons_zero, List.set_cons_succ, List.getElem?_cons_zero, List.getElem?_cons_succ, List.cons_append, List.nil_append, Tg.slots, if_true, Bool.false_eq_true, if_false, reduceIte, List.length_cons, List.length_nil]); (try simp only [ne_eq, reduceCtorEq, not_false_eq_true, not_true_eq_false, true_or, or_true, false_or, or_false, true_and, and_true, isPath, G1, P1, Bool.and_true, Bool.true_and, Bool.and_self, Bool.not_true, Bool.not_false]))
    exact q
end
end Mp

namespace Mp
open PySem (Str CmpOp)
/-! ### the pieces of a move -/
abbrev hf : Rat := Rat.divInt 1 2
structure Pc where
  st : Rat
  en : Rat
  p : Rat
  v : Rat
  a : Rat
def pNext (p v d a : Rat) : Rat := p + v * d + a * hf * d * d
def pcs : List (Rat × Rat) → Rat → Rat → Rat → List Pc
  | [], _, _, _ => []
  | (d, a) :: rs, st, p, v => ⟨st, st + d, p, v, a⟩ :: pcs rs (st + d) (pNext p v d a) (v + a * d)
/-- where the move ends: time, place, speed -/
def pEnd : List (Rat × Rat) → Rat → Rat → Rat → Rat × Rat × Rat
  | [], st, p, v => (st, p, v)
  | (d, a) :: rs, st, p, v => pEnd rs (st + d) (pNext p v d a) (v + a * d)
def encP (x : Pc) : D := .tup [.rat x.st, .rat x.en, .rat x.p, .rat x.v, .rat x.a]
def encL (x : Pc) : D := .tup [pr x.st, pr x.en, pr x.p, pr x.v, pr x.a]
def encQ (r : Rat × Rat) : D := .tup [.rat r.1, .rat r.2]
/-- all operands of one turn -/
structure StepOk (st p v d a : Rat) : Prop where
  sst : Sm st
  sd : Sm d
  sp : Sm p
  sv : Sm v
  sa : Sm a
  vd : Sm (v * d)
  pvd : Sm (p + v * d)
  ah : Sm (a * hf)
  ahd : Sm (a * hf * d)
  ahdd : Sm (a * hf * d * d)
  ad : Sm (a * d)
  dd : Sm (d * d)
  add : Sm (a * (d * d))
  hadd : Sm (hf * (a * (d * d)))
  vh : Sm (v * d + hf * (a * (d * d)))
theorem sm_half : Sm hf := Zb.half.sm (by decide) (by decide)
theorem StepOk.of {st p v d a : Rat} {n1 d1 n2 d2 n3 d3 n4 d4 n5 d5 : Nat} (hs : Zb n1 d1 st) (hp : Zb n2 d2 p) (hv : Zb n3 d3 v) (hd : Zb n4 d4 d) (ha : Zb n5 d5 a)
    (c1 : n1 ≤ 4490) (c2 : d1 < 4490) (c3 : n2 + d3 + d4 + 2 ≤ 4490) (c5 : n3 + n4 + d2 + 2 ≤ 4490) (c6 : d2 + d3 + d4 < 4490) (c4 : n3 + n4 + d5 + 2 * d4 + 3 ≤ 4490 ∧ n5 + 2 * n4 + d3 + d4 + 3 ≤ 4490 ∧ d3 + 3 * d4 + d5 + 3 ≤ 4490) : StepOk st p v d a := by
  have vd := hv.mul hd
  have pvd := hp.add vd
  have ah := ha.mul Zb.half
  have ahd := ah.mul hd
  have ahdd := ahd.mul hd
  have ad := ha.mul hd
  have dd := hd.mul hd
  have add := ha.mul dd
  have hadd := Zb.half.mul add
  have vh := vd.add hadd
  exact ⟨hs.sm c1 c2, hd.sm (by omega) (by omega), hp.sm (by omega) (by omega), hv.sm (by omega) (by omega), ha.sm (by omega) (by omega), vd.sm (by omega) (by omega), pvd.sm (by omega) (by omega), ah.sm (by omega) (by omega), ahd.sm (by omega) (by omega), ahdd.sm (by omega) (by omega), ad.sm (by omega) (by omega), dd.sm (by omega) (by omega), add.sm (by omega) (by omega), hadd.sm (by omega) (by omega), vh.sm (by omega) (by omega)⟩
def Bnd : List (Rat × Rat) → Rat → Rat → Rat → Prop
  | [], _, _, _ => True
  | (d, a) :: rs, st, p, v => StepOk st p v d a ∧ Bnd rs (st + d) (pNext p v d a) (v + a * d)
theorem Zb.next {p v d a : Rat} {n2 d2 n3 d3 n4 d4 n5 d5 : Nat} (hp : Zb n2 d2 p) (hv : Zb n3 d3 v) (hd : Zb n4 d4 d) (ha : Zb n5 d5 a) :
    Zb (max (max (n2 + (d3 + d4)) (n3 + n4 + d2) + 1 + (d5 + 1 + d4 + d4)) (n5 + 1 + n4 + n4 + (d2 + (d3 + d4))) + 1) (d2 + (d3 + d4) + (d5 + 1 + d4 + d4)) (pNext p v d a) :=
  (hp.add (hv.mul hd)).add (((ha.mul Zb.half).mul hd).mul hd)
theorem bnd_of {d a : Rat} (hd : Zb 30 20 d) (ha : Zb 287 230 a) : ∀ (rs : List (Rat × Rat)) (i : Nat) {st p v : Rat}, rs.length + i ≤ 5 → (∀ r ∈ rs, Rw r) → Zb (31 + 21 * i) (20 * i) st → Zb (160 + 290 * i) (241 * i) p → Zb (62 + 41 * i) (40 * i) v → Bnd (rs ++ [(d, a)]) st p v
  | [], i, st, p, v, hi, _, zs, zp, zv => by
    have hi : i ≤ 5 := by simpa using hi
    exact ⟨StepOk.of zs zp zv hd ha (by omega) (by omega) (by omega) (by omega) (by omega) (by omega), trivial⟩
  | (d', a') :: rs, i, st, p, v, hi, hr, zs, zp, zv => by
    rw [List.length_cons] at hi
    obtain ⟨z1, z2, z3⟩ := hr _ List.mem_cons_self
    refine ⟨StepOk.of zs zp zv z1 z3 (by omega) (by omega) (by omega) (by omega) (by omega) (by omega), ?_⟩
    exact bnd_of hd ha rs (i + 1) (by omega) (fun r h => hr r (List.mem_cons_of_mem _ h)) ((zs.add z1).mono (by omega) (by omega)) ((zp.next zv z1 z3).mono (by omega) (by omega)) ((zv.add (z3.mul z1)).mono (by omega) (by omega))
theorem MoveOk.bnd {rs : List (Rat × Rat)} {d a : Rat} (m : MoveOk rs d a) : Bnd (rs ++ [(d, a)]) 0 0 0 := bnd_of m.zd m.za rs 0 m.len m.all (Zb.zero.mono (by omega) (by omega)) (Zb.zero.mono (by omega) (by omega)) (Zb.zero.mono (by omega) (by omega))
section
variable {Γ : String → Option MDef} {k : Nat} {s : Strm} {Q : D → Strm → Prop}
theorem V_half (h2 : Γ "half" = some d_half) {a : Rat} (ha : Sm a) (q : Q (.rat (a * hf)) s) : V (callF Γ (k + 1) "half" [.rat a]) s Q := by
  refine V_call h2 rfl ?_
  simp only [d_half]
  ((try simp only [E1, R1, N1, V_cons, bw, optI, tru, notB, V_bind, V_pure, V_guard, V_ite, V_some, V_getS, V_setS, getE, asgT, setE, setsE, kilE, wipeE, D.strips, D.strip, isNop, B1, S1, P1, List.map, List.append, List.replicate, List.set_cons_zero, List.set_cons_succ, List.getElem?_cons_zero, List.getElem?_cons_succ, List.cons_append, List.nil_append, Tg.slots, if_true, Bool.false_eq_true, if_false, reduceIte, List.length_cons, List.length_nil]); (try simp only [ne_eq, reduceCtorEq, not_false_eq_true, not_true_eq_false, true_or, or_true, false_or, or_false, true_and, and_true, isPath, G1, P1, Bool.and_true, Bool.true_and, Bool.and_self, Bool.not_true, Bool.not_false]))
  rw [if_neg (by decide)]
  ((try simp only [E1, R1, N1, V_cons, bw, optI, tru, notB, V_bind, V_pure, V_guard, V_ite, V_some, V_getS, V_setS, getE, asgT, setE, setsE, kilE, wipeE, D.strips, D.strip, isNop, B1, S1, P1, List.map, List.append, List.replicate, List.set_cons_zero, List.set_cons_succ, List.getElem?_cons_zero, List.getElem?_cons_succ, List.cons_append, List.nil_append, Tg.slots, if_true, Bool.false_eq_true, if_false, reduceIte, List.length_cons, List.length_nil]); (try simp only [ne_eq, reduceCtorEq, not_false_eq_true, not_true_eq_false, true_or, or_true, false_or, or_false, true_and, and_true, isPath, G1, P1, Bool.and_true, Bool.true_and, Bool.and_self, Bool.not_true, Bool.not_false]))
  exact ⟨by decide +kernel, ⟨ha, sm_half⟩, q⟩
theorem V_pieces (hh : Γ "half" = some d_half) (h2 : Γ "pieces" = some d_pieces) {rs : List (Rat × Rat)} (hb : Bnd rs 0 0 0) (hl : rs.length < 1000) (q : Q (.lst true ((pcs rs 0 0 0).map encP)) s) : V (callF Γ (k + 2) "pieces" [.tup (rs.map encQ)]) s Q := by
  refine V_call h2 rfl ?_
  simp only [d_pieces]
  ((try simp only [E1, R1, N1, V_cons, bw, optI, tru, notB, V_bind, V_pure, V_guard, V_ite, V_some, V_getS, V_setS, getE, asgT, setE, setsE, kilE, wipeE, D.strips, D.strip, isNop, B1, S1, P1, List.map, List.append, List.replicate, List.set_cons_zero, List.set_cons_succ, List.getElem?_cons_zero, List.getElem?_cons_succ, List.cons_append, List.nil_append, Tg.slots, if_true, Bool.false_eq_true, if_false, reduceIte, List.length_cons, List.length_nil]); (try simp only [ne_eq, reduceCtorEq, not_false_eq_true, not_true_eq_false, true_or, or_true, false_or, or_false, true_and, and_true, isPath, G1, P1, Bool.and_true, Bool.true_and, Bool.and_self, Bool.not_true, Bool.not_false]))
  have no : D.noOwns (rs.map encQ) = true := by
    generalize rs = xs
    induction xs with
    | nil => rfl
    | cons x xs ih => exact ih
  refine ⟨no, no, ?_⟩
  have loop : ∀ (xs : List (Rat × Rat)) (st p v : Rat) (fs : List Pc) (mv : D) (R : Fl → Strm → Prop), Bnd xs st p v → fs.length + xs.length < 1000 → R (.nx [some mv, some (.lst true ((fs ++ pcs xs st p v).map encP)), some (.rat (pEnd xs st p v).1), some (.rat (pEnd xs st p v).2.1), some (.rat (pEnd xs st p v).2.2), none, none]) s →
      V (forL (Bdy (callF Γ (k + 1)) (.cons (.app 1 (.tup (.cons (.var 2) (.cons (.bin .add (.var 2) (.var 5)) (.cons (.var 3) (.cons (.var 4) (.cons (.var 6) .nil))))))) (.cons (.asg (.nm 3) (.bin .add (.bin .add (.var 3) (.bin .mul (.var 4) (.var 5))) (.bin .mul (.bin .mul (.call "half" (.cons (.var 6) .nil)) (.var 5)) (.var 5)))) (.cons (.asg (.nm 4) (.bin .add (.var 4) (.bin .mul (.var 6) (.var 5)))) (.cons (.asg (.nm 2) (.bin .add (.var 2) (.var 5))) .nil))))) (.tup [5, 6]) [5, 6] (xs.map encQ)
        [some mv, some (.lst true (fs.map encP)), some (.rat st), some (.rat p), some (.rat v), none, none]) s R := by
    intro xs
    induction xs with
    | nil =>
      intro st p v fs mv R _ _ r
      rw [List.map_nil, forL]
      refine V_pure.mpr ?_
      rw [show fs ++ pcs [] st p v = fs from List.append_nil fs] at r
      exact r
    | cons x xs ih =>
      obtain ⟨d, a⟩ := x
      intro st p v fs mv R ⟨ok, hb⟩ hl r
      rw [List.map_cons, forL]
      unfold encQ
      rw [List.length_cons] at hl
      ((try simp only [E1, R1, N1, V_cons, bw, optI, tru, notB, V_bind, V_pure, V_guard, V_ite, V_some, V_getS, V_setS, getE, asgT, setE, setsE, kilE, wipeE, D.strips, D.strip, isNop, B1, S1, P1, List.map, List.append, List.replicate, List.set_cons_zero, List.set_cons_succ, List.getElem?_cons_zero, List.getElem?_cons_succ, List.cons_append, List.nil_append, Tg.slots, if_true, Bool.false_eq_true, if_false, reduceIte, List.length_cons, List.length_nil]); (try simp only [ne_eq, reduceCtorEq, not_false_eq_true, not_true_eq_false, true_or, or_true, false_or, or_false, true_and, and_true, isPath, G1, P1, Bool.and_true, Bool.true_and, Bool.and_self, Bool.not_true, Bool.not_false]))
      rw [Bdy_eq]
      ((try simp only [E1, R1, N1, V_cons, bw, optI, tru, notB, V_bind, V_pure, V_guard, V_ite, V_some, V_getS, V_setS, getE, asgT, setE, setsE, kilE, wipeE, D.strips, D.strip, isNop, B1, S1, P1, List.map, List.append, List.replicate, List.set_cons_zero, List.set_cons_succ, List.getElem?_cons_zero, List.getElem?_cons_succ, List.cons_append, List.nil_append, Tg.slots, if_true, Bool.false_eq_true, if_false, reduceIte, List.length_cons, List.length_nil]); (try simp only [ne_eq, reduceCtorEq, not_false_eq_true, not_true_eq_false, true_or, or_true, false_or, or_false, true_and, and_true, isPath, G1, P1, Bool.and_true, Bool.true_and, Bool.and_self, Bool.not_true, Bool.not_false]))
      refine ⟨⟨ok.sst, ok.sd⟩, by rw [List.length_map]; exact Nat.lt_trans (by omega) (show 1000 < LIM by decide), ⟨ok.sv, ok.sd⟩, ⟨ok.sp, ok.vd⟩, V_half hh ok.sa ?_⟩
      ((try simp only [E1, R1, N1, V_cons, bw, optI, tru, notB, V_bind, V_pure, V_guard, V_ite, V_some, V_getS, V_setS, getE, asgT, setE, setsE, kilE, wipeE, D.strips, D.strip, isNop, B1, S1, P1, List.map, List.append, List.replicate, List.set_cons_zero, List.set_cons_succ, List.getElem?_cons_zero, List.getElem?_cons_succ, List.cons_append, List.nil_append, Tg.slots, if_true, Bool.false_eq_true, if_false, reduceIte, List.length_cons, List.length_nil]); (try simp only [ne_eq, reduceCtorEq, not_false_eq_true, not_true_eq_false, true_or, or_true, false_or, or_false, true_and, and_true, isPath, G1, P1, Bool.and_true, Bool.true_and, Bool.and_self, Bool.not_true, Bool.not_false]))
      refine ⟨⟨ok.ah, ok.sd⟩, ⟨ok.ahd, ok.sd⟩, ⟨ok.pvd, ok.ahdd⟩, ⟨ok.sa, ok.sd⟩, ⟨ok.sv, ok.ad⟩, ⟨ok.sst, ok.sd⟩, ?_⟩
      have := ih (st + d) (pNext p v d a) (v + a * d) (fs ++ [⟨st, st + d, p, v, a⟩]) mv R hb (by rw [List.length_append]; simp; omega) (by
        rw [List.append_assoc]
        exact r)
      rw [List.map_append] at this
      exact this
  refine loop rs 0 0 0 [] (.tup (rs.map encQ)) _ hb (by simpa using hl) ?_
  ((try simp only [E1, R1, N1, V_cons, bw, optI, tru, notB, V_bind, V_pure, V_guard, V_ite, V_some, V_getS, V_setS, getE, asgT, setE, setsE, kilE, wipeE, D.strips, D.strip, isNop, B1, S1, P1, List.map, List.append, List.replicate, List.set_cons_zero, List.set_cons_succ, List.getElem?_cons_zero, List.getElem?_cons_succ, List.cons_append, List.nil_append, Tg.slots, if_true, Bool.false_eq_true, if_false, reduceIte, List.length_cons, List.length_nil]); (try simp only [ne_eq, reduceCtorEq, not_false_eq_true, not_true_eq_false, true_or, or_true, false_or, or_false, true_and, and_true, isPath, G1, P1, Bool.and_true, Bool.true_and, Bool.and_self, Bool.not_true, Bool.not_false]))
  exact q
end
end Mp

namespace Mp
open PySem (Str CmpOp)
theorem pr_half : D.tup [.int 1, .int 2] = pr hf := by
  unfold pr
  rw [show hf.num = 1 by decide +kernel, show hf.den = 2 by decide +kernel]
  rfl
theorem pr_zero : D.tup [.int 0, .int 1] = pr 0 := rfl
theorem eqv_pr (a b : Rat) : D.eqv (pr a) (pr b) = some (a == b) := by
  show (match some (a.num == b.num) with | some true => D.eqvs [.int a.den] [.int b.den] | r => r) = _
  by_cases h : a.num = b.num
  · rw [show (a.num == b.num) = true by simpa using h]
    show (match some ((a.den : Int) == b.den) with | some true => D.eqvs [] [] | r => r) = _
    by_cases h2 : a.den = b.den
    · have e : a = b := Rat.ext h h2
      subst e
      simp [D.eqvs]
    · have e : (a == b) = false := by
        rw [beq_eq_false_iff_ne]
        exact fun z => h2 (by rw [z])
      rw [e, show ((a.den : Int) == b.den) = false by rw [beq_eq_false_iff_ne]; omega]
  · have e : (a == b) = false := by
      rw [beq_eq_false_iff_ne]
      exact fun z => h (by rw [z])
    rw [e, show (a.num == b.num) = false by simpa using h]
section
variable {Γ : String → Option MDef} {k : Nat} {s : Strm} {Q : D → Strm → Prop}
def pNextL (p v d a : Rat) : Rat := p + (v * d + hf * (a * (d * d)))
theorem next_eq (p v d a : Rat) : pNextL p v d a = pNext p v d a := by unfold pNextL pNext; grind
theorem V_after (hp : Γ "_law_pair" = some d__law_pair) (hsu : Γ "_law_sum" = some d__law_sum) (hti : Γ "_law_times" = some d__law_times) (h2 : Γ "_law_after" = some d__law_after) {st p v d a : Rat} (ok : StepOk st p v d a) (q : Q (.lst true [pr (pNext p v d a), pr (v + a * d)]) s) :
    V (callF Γ (k + 3) "_law_after" [pr p, pr v, pr a, pr d]) s Q := by
  refine V_call h2 rfl ?_
  simp only [d__law_after]
  ((try simp only [E1, R1, N1, V_cons, bw, optI, tru, notB, V_bind, V_pure, V_guard, V_ite, V_some, V_getS, V_setS, getE, asgT, setE, setsE, kilE, wipeE, D.strips, D.strip, isNop, B1, S1, P1, List.map, List.append, List.replicate, List.set_cons_zero, List.set_cons_succ, List.getElem?_cons_zero, List.getElem?_cons_succ, List.cons_append, List.nil_append, Tg.slots, if_true, Bool.false_eq_true, if_false, reduceIte, List.length_cons, List.length_nil]); (try simp only [ne_eq, reduceCtorEq, not_false_eq_true, not_true_eq_false, true_or, or_true, false_or, or_false, true_and, and_true, isPath, G1, P1, Bool.and_true, Bool.true_and, Bool.and_self, Bool.not_true, Bool.not_false]))
  refine V_times hp hti ok.sd ok.sd ?_
  ((try simp only [E1, R1, N1, V_cons, bw, optI, tru, notB, V_bind, V_pure, V_guard, V_ite, V_some, V_getS, V_setS, getE, asgT, setE, setsE, kilE, wipeE, D.strips, D.strip, isNop, B1, S1, P1, List.map, List.append, List.replicate, List.set_cons_zero, List.set_cons_succ, List.getElem?_cons_zero, List.getElem?_cons_succ, List.cons_append, List.nil_append, Tg.slots, if_true, Bool.false_eq_true, if_false, reduceIte, List.length_cons, List.length_nil]); (try simp only [ne_eq, reduceCtorEq, not_false_eq_true, not_true_eq_false, true_or, or_true, false_or, or_false, true_and, and_true, isPath, G1, P1, Bool.and_true, Bool.true_and, Bool.and_self, Bool.not_true, Bool.not_false]))
  refine V_times hp hti ok.sa ok.dd ?_
  ((try simp only [E1, R1, N1, V_cons, bw, optI, tru, notB, V_bind, V_pure, V_guard, V_ite, V_some, V_getS, V_setS, getE, asgT, setE, setsE, kilE, wipeE, D.strips, D.strip, isNop, B1, S1, P1, List.map, List.append, List.replicate, List.set_cons_zero, List.set_cons_succ, List.getElem?_cons_zero, List.getElem?_cons_succ, List.cons_append, List.nil_append, Tg.slots, if_true, Bool.false_eq_true, if_false, reduceIte, List.length_cons, List.length_nil]); (try simp only [ne_eq, reduceCtorEq, not_false_eq_true, not_true_eq_false, true_or, or_true, false_or, or_false, true_and, and_true, isPath, G1, P1, Bool.and_true, Bool.true_and, Bool.and_self, Bool.not_true, Bool.not_false]))
  rw [pr_half]
  refine V_times hp hti sm_half ok.add ?_
  ((try simp only [E1, R1, N1, V_cons, bw, optI, tru, notB, V_bind, V_pure, V_guard, V_ite, V_some, V_getS, V_setS, getE, asgT, setE, setsE, kilE, wipeE, D.strips, D.strip, isNop, B1, S1, P1, List.map, List.append, List.replicate, List.set_cons_zero, List.set_cons_succ, List.getElem?_cons_zero, List.getElem?_cons_succ, List.cons_append, List.nil_append, Tg.slots, if_true, Bool.false_eq_true, if_false, reduceIte, List.length_cons, List.length_nil]); (try simp only [ne_eq, reduceCtorEq, not_false_eq_true, not_true_eq_false, true_or, or_true, false_or, or_false, true_and, and_true, isPath, G1, P1, Bool.and_true, Bool.true_and, Bool.and_self, Bool.not_true, Bool.not_false]))
  refine V_times hp hti ok.sv ok.sd ?_
  ((try simp only [E1, R1, N1, V_cons, bw, optI, tru, notB, V_bind, V_pure, V_guard, V_ite, V_some, V_getS, V_setS, getE, asgT, setE, setsE, kilE, wipeE, D.strips, D.strip, isNop, B1, S1, P1, List.map, List.append, List.replicate, List.set_cons_zero, List.set_cons_succ, List.getElem?_cons_zero, List.getElem?_cons_succ, List.cons_append, List.nil_append, Tg.slots, if_true, Bool.false_eq_true, if_false, reduceIte, List.length_cons, List.length_nil]); (try simp only [ne_eq, reduceCtorEq, not_false_eq_true, not_true_eq_false, true_or, or_true, false_or, or_false, true_and, and_true, isPath, G1, P1, Bool.and_true, Bool.true_and, Bool.and_self, Bool.not_true, Bool.not_false]))
  refine V_sum hp hsu ok.vd ok.hadd ?_
  ((try simp only [E1, R1, N1, V_cons, bw, optI, tru, notB, V_bind, V_pure, V_guard, V_ite, V_some, V_getS, V_setS, getE, asgT, setE, setsE, kilE, wipeE, D.strips, D.strip, isNop, B1, S1, P1, List.map, List.append, List.replicate, List.set_cons_zero, List.set_cons_succ, List.getElem?_cons_zero, List.getElem?_cons_succ, List.cons_append, List.nil_append, Tg.slots, if_true, Bool.false_eq_true, if_false, reduceIte, List.length_cons, List.length_nil]); (try simp only [ne_eq, reduceCtorEq, not_false_eq_true, not_true_eq_false, true_or, or_true, false_or, or_false, true_and, and_true, isPath, G1, P1, Bool.and_true, Bool.true_and, Bool.and_self, Bool.not_true, Bool.not_false]))
  refine V_sum hp hsu ok.sp ok.vh ?_
  ((try simp only [E1, R1, N1, V_cons, bw, optI, tru, notB, V_bind, V_pure, V_guard, V_ite, V_some, V_getS, V_setS, getE, asgT, setE, setsE, kilE, wipeE, D.strips, D.strip, isNop, B1, S1, P1, List.map, List.append, List.replicate, List.set_cons_zero, List.set_cons_succ, List.getElem?_cons_zero, List.getElem?_cons_succ, List.cons_append, List.nil_append, Tg.slots, if_true, Bool.false_eq_true, if_false, reduceIte, List.length_cons, List.length_nil]); (try simp only [ne_eq, reduceCtorEq, not_false_eq_true, not_true_eq_false, true_or, or_true, false_or, or_false, true_and, and_true, isPath, G1, P1, Bool.and_true, Bool.true_and, Bool.and_self, Bool.not_true, Bool.not_false]))
  refine V_times hp hti ok.sa ok.sd ?_
  ((try simp only [E1, R1, N1, V_cons, bw, optI, tru, notB, V_bind, V_pure, V_guard, V_ite, V_some, V_getS, V_setS, getE, asgT, setE, setsE, kilE, wipeE, D.strips, D.strip, isNop, B1, S1, P1, List.map, List.append, List.replicate, List.set_cons_zero, List.set_cons_succ, List.getElem?_cons_zero, List.getElem?_cons_succ, List.cons_append, List.nil_append, Tg.slots, if_true, Bool.false_eq_true, if_false, reduceIte, List.length_cons, List.length_nil]); (try simp only [ne_eq, reduceCtorEq, not_false_eq_true, not_true_eq_false, true_or, or_true, false_or, or_false, true_and, and_true, isPath, G1, P1, Bool.and_true, Bool.true_and, Bool.and_self, Bool.not_true, Bool.not_false]))
  refine V_sum hp hsu ok.sv ok.ad ?_
  ((try simp only [E1, R1, N1, V_cons, bw, optI, tru, notB, V_bind, V_pure, V_guard, V_ite, V_some, V_getS, V_setS, getE, asgT, setE, setsE, kilE, wipeE, D.strips, D.strip, isNop, B1, S1, P1, List.map, List.append, List.replicate, List.set_cons_zero, List.set_cons_succ, List.getElem?_cons_zero, List.getElem?_cons_succ, List.cons_append, List.nil_append, Tg.slots, if_true, Bool.false_eq_true, if_false, reduceIte, List.length_cons, List.length_nil]); (try simp only [ne_eq, reduceCtorEq, not_false_eq_true, not_true_eq_false, true_or, or_true, false_or, or_false, true_and, and_true, isPath, G1, P1, Bool.and_true, Bool.true_and, Bool.and_self, Bool.not_true, Bool.not_false]))
  have e : p + (v * d + hf * (a * (d * d))) = pNext p v d a := next_eq p v d a
  rw [e]
  exact q
def encE (x : Rat × Rat × Rat) : D := .tup [pr x.1, pr x.1, pr x.2.1, pr 0, pr 0]
theorem V_lawpieces (hp : Γ "_law_pair" = some d__law_pair) (hsu : Γ "_law_sum" = some d__law_sum) (hti : Γ "_law_times" = some d__law_times) (haf : Γ "_law_after" = some d__law_after) (h2 : Γ "_law_pieces" = some d__law_pieces) {rs : List (Rat × Rat)} (hb : Bnd rs 0 0 0) (hl : rs.length < 1000)
    (q : Q (.lst true ((pcs rs 0 0 0).map encL ++ [encE (pEnd rs 0 0 0)])) s) : V (callF Γ (k + 4) "_law_pieces" [.lst false (rs.map encR)]) s Q := by
  refine V_call h2 rfl ?_
  simp only [d__law_pieces]
  ((try simp only [E1, R1, N1, V_cons, bw, optI, tru, notB, V_bind, V_pure, V_guard, V_ite, V_some, V_getS, V_setS, getE, asgT, setE, setsE, kilE, wipeE, D.strips, D.strip, isNop, B1, S1, P1, List.map, List.append, List.replicate, List.set_cons_zero, List.set_cons_succ, List.getElem?_cons_zero, List.getElem?_cons_succ, List.cons_append, List.nil_append, Tg.slots, if_true, Bool.false_eq_true, if_false, reduceIte, List.length_cons, List.length_nil]); (try simp only [ne_eq, reduceCtorEq, not_false_eq_true, not_true_eq_false, true_or, or_true, false_or, or_false, true_and, and_true, isPath, G1, P1, Bool.and_true, Bool.true_and, Bool.and_self, Bool.not_true, Bool.not_false]))
  refine ⟨noOwns_encR rs, noOwns_encR rs, ?_⟩
  rw [pr_zero]
  have pl : ∀ (xs : List (Rat × Rat)) (st p v : Rat), (pcs xs st p v).length = xs.length := by
    intro xs
    induction xs with
    | nil => intros; rfl
    | cons x xs ih => intro st p v; exact congrArg Nat.succ (ih _ _ _)
  have loop : ∀ (xs : List (Rat × Rat)) (st p v : Rat) (fs : List Pc) (mv : D) (R : Fl → Strm → Prop), Bnd xs st p v → fs.length + xs.length < 1000 → R (.nx [some mv, some (.lst true ((fs ++ pcs xs st p v).map encL)), some (pr (pEnd xs st p v).1), some (pr (pEnd xs st p v).2.1), some (pr (pEnd xs st p v).2.2), none, none, none]) s →
      V (forL (Bdy (callF Γ (k + 3)) (.cons (.asg (.nm 7) (.call "_law_sum" (.cons (.var 2) (.cons (.var 5) .nil)))) (.cons (.app 1 (.tup (.cons (.var 2) (.cons (.var 7) (.cons (.var 3) (.cons (.var 4) (.cons (.var 6) .nil))))))) (.cons (.asg (.tup [3, 4]) (.call "_law_after" (.cons (.var 3) (.cons (.var 4) (.cons (.var 6) (.cons (.var 5) .nil)))))) (.cons (.asg (.nm 2) (.var 7)) .nil))))) (.tup [5, 6]) [5, 6, 7] (xs.map encR)
        [some mv, some (.lst true (fs.map encL)), some (pr st), some (pr p), some (pr v), none, none, none]) s R := by
    intro xs
    induction xs with
    | nil =>
      intro st p v fs mv R _ _ r
      rw [List.map_nil, forL]
      refine V_pure.mpr ?_
      rw [show fs ++ pcs [] st p v = fs from List.append_nil fs] at r
      exact r
    | cons x xs ih =>
      obtain ⟨d, a⟩ := x
      intro st p v fs mv R ⟨ok, hb⟩ hl r
      rw [List.map_cons, forL]
      unfold encR
      rw [List.length_cons] at hl
      ((try simp only [E1, R1, N1, V_cons, bw, optI, tru, notB, V_bind, V_pure, V_guard, V_ite, V_some, V_getS, V_setS, getE, asgT, setE, setsE, kilE, wipeE, D.strips, D.strip, isNop, B1, S1, P1, List.map, List.append, List.replicate, List.set_cons_zero, List.set_cons_succ, List.getElem?_cons_zero, List.getElem?_cons_succ, List.cons_append, List.nil_append, Tg.slots, if_true, Bool.false_eq_true, if_false, reduceIte, List.length_cons, List.length_nil]); (try simp only [ne_eq, reduceCtorEq, not_false_eq_true, not_true_eq_false, true_or, or_true, false_or, or_false, true_and, and_true, isPath, G1, P1, Bool.and_true, Bool.true_and, Bool.and_self, Bool.not_true, Bool.not_false]))
      rw [Bdy_eq]
      ((try simp only [E1, R1, N1, V_cons, bw, optI, tru, notB, V_bind, V_pure, V_guard, V_ite, V_some, V_getS, V_setS, getE, asgT, setE, setsE, kilE, wipeE, D.strips, D.strip, isNop, B1, S1, P1, List.map, List.append, List.replicate, List.set_cons_zero, List.set_cons_succ, List.getElem?_cons_zero, List.getElem?_cons_succ, List.cons_append, List.nil_append, Tg.slots, if_true, Bool.false_eq_true, if_false, reduceIte, List.length_cons, List.length_nil]); (try simp only [ne_eq, reduceCtorEq, not_false_eq_true, not_true_eq_false, true_or, or_true, false_or, or_false, true_and, and_true, isPath, G1, P1, Bool.and_true, Bool.true_and, Bool.and_self, Bool.not_true, Bool.not_false]))
      refine V_sum hp hsu ok.sst ok.sd ?_
      ((try simp only [E1, R1, N1, V_cons, bw, optI, tru, notB, V_bind, V_pure, V_guard, V_ite, V_some, V_getS, V_setS, getE, asgT, setE, setsE, kilE, wipeE, D.strips, D.strip, isNop, B1, S1, P1, List.map, List.append, List.replicate, List.set_cons_zero, List.set_cons_succ, List.getElem?_cons_zero, List.getElem?_cons_succ, List.cons_append, List.nil_append, Tg.slots, if_true, Bool.false_eq_true, if_false, reduceIte, List.length_cons, List.length_nil]); (try simp only [ne_eq, reduceCtorEq, not_false_eq_true, not_true_eq_false, true_or, or_true, false_or, or_false, true_and, and_true, isPath, G1, P1, Bool.and_true, Bool.true_and, Bool.and_self, Bool.not_true, Bool.not_false]))
      refine ⟨by rw [List.length_map]; exact Nat.lt_trans (by omega) (show 1000 < LIM by decide), V_after hp hsu hti haf ok ?_⟩
      ((try simp only [E1, R1, N1, V_cons, bw, optI, tru, notB, V_bind, V_pure, V_guard, V_ite, V_some, V_getS, V_setS, getE, asgT, setE, setsE, kilE, wipeE, D.strips, D.strip, isNop, B1, S1, P1, List.map, List.append, List.replicate, List.set_cons_zero, List.set_cons_succ, List.getElem?_cons_zero, List.getElem?_cons_succ, List.cons_append, List.nil_append, Tg.slots, if_true, Bool.false_eq_true, if_false, reduceIte, List.length_cons, List.length_nil]); (try simp only [ne_eq, reduceCtorEq, not_false_eq_true, not_true_eq_false, true_or, or_true, false_or, or_false, true_and, and_true, isPath, G1, P1, Bool.and_true, Bool.true_and, Bool.and_self, Bool.not_true, Bool.not_false]))
      have := ih (st + d) (pNext p v d a) (v + a * d) (fs ++ [⟨st, st + d, p, v, a⟩]) mv R hb (by rw [List.length_append]; simp; omega) (by
        rw [List.append_assoc]
        exact r)
      rw [List.map_append] at this
      exact this
  refine loop rs 0 0 0 [] (.lst false (rs.map encR)) _ hb (by simpa using hl) ?_
  rw [List.nil_append]
  ((try simp only [E1, R1, N1, V_cons, bw, optI, tru, notB, V_bind, V_pure, V_guard, V_ite, V_some, V_getS, V_setS, getE, asgT, setE, setsE, kilE, wipeE, D.strips, D.strip, isNop, B1, S1, P1, List.map, List.append, List.replicate, List.set_cons_zero, List.set_cons_succ, List.getElem?_cons_zero, List.getElem?_cons_succ, List.cons_append, List.nil_append, Tg.slots, if_true, Bool.false_eq_true, if_false, reduceIte, List.length_cons, List.length_nil]); (try simp only [ne_eq, reduceCtorEq, not_false_eq_true, not_true_eq_false, true_or, or_true, false_or, or_false, true_and, and_true, isPath, G1, P1, Bool.and_true, Bool.true_and, Bool.and_self, Bool.not_true, Bool.not_false]))
  refine ⟨by rw [List.length_map, pl]; exact Nat.lt_trans hl (by decide), ?_⟩
  exact q
def lenR : List (Rat × Rat) → Rat → Rat
  | [], z => z
  | (d, _) :: rs, z => lenR rs (z + d)
theorem len_end : ∀ (rs : List (Rat × Rat)) (st p v : Rat), lenR rs st = (pEnd rs st p v).1
  | [], _, _, _ => rfl
  | (_, _) :: rs, _, _, _ => len_end rs _ _ _
theorem V_lawlength (hp : Γ "_law_pair" = some d__law_pair) (hsu : Γ "_law_sum" = some d__law_sum) (h2 : Γ "_law_length" = some d__law_length) {rs : List (Rat × Rat)} (hb : Bnd rs 0 0 0) (q : Q (pr (lenR rs 0)) s) : V (callF Γ (k + 3) "_law_length" [.lst false (rs.map encR)]) s Q := by
  refine V_call h2 rfl ?_
  simp only [d__law_length]
  ((try simp only [E1, R1, N1, V_cons, bw, optI, tru, notB, V_bind, V_pure, V_guard, V_ite, V_some, V_getS, V_setS, getE, asgT, setE, setsE, kilE, wipeE, D.strips, D.strip, isNop, B1, S1, P1, List.map, List.append, List.replicate, List.set_cons_zero, List.set_cons_succ, List.getElem?_cons_zero, List.getElem?_cons_succ, List.cons_append, List.nil_append, Tg.slots, if_true, Bool.false_eq_true, if_false, reduceIte, List.length_cons, List.length_nil]); (try simp only [ne_eq, reduceCtorEq, not_false_eq_true, not_true_eq_false, true_or, or_true, false_or, or_false, true_and, and_true, isPath, G1, P1, Bool.and_true, Bool.true_and, Bool.and_self, Bool.not_true, Bool.not_false]))
  refine ⟨noOwns_encR rs, noOwns_encR rs, ?_⟩
  rw [pr_zero]
  have loop : ∀ (xs : List (Rat × Rat)) (st p v : Rat) (mv : D) (R : Fl → Strm → Prop), Bnd xs st p v → R (.nx [some mv, some (pr (lenR xs st)), none]) s →
      V (forL (Bdy (callF Γ (k + 2)) (.cons (.asg (.nm 1) (.call "_law_sum" (.cons (.var 1) (.cons (.ix (.var 2) (.int 0)) .nil)))) .nil)) (.nm 2) [2] (xs.map encR) [some mv, some (pr st), none]) s R := by
    intro xs
    induction xs with
    | nil =>
      intro st p v mv R _ r
      rw [List.map_nil, forL]
      exact V_pure.mpr r
    | cons x xs ih =>
      obtain ⟨d, a⟩ := x
      intro st p v mv R ⟨ok, hb⟩ r
      rw [List.map_cons, forL]
      unfold encR
      ((try simp only [E1, R1, N1, V_cons, bw, optI, tru, notB, V_bind, V_pure, V_guard, V_ite, V_some, V_getS, V_setS, getE, asgT, setE, setsE, kilE, wipeE, D.strips, D.strip, isNop, B1, S1, P1, List.map, List.append, List.replicate, List.set_cons_zero, List.set_cons_succ, List.getElem?_cons_zero, List.getElem?_cons_succ, List.cons_append, List.nil_append, Tg.slots, if_true, Bool.false_eq_true, if_false, reduceIte, List.length_cons, List.length_nil]); (try simp only [ne_eq, reduceCtorEq, not_false_eq_true, not_true_eq_false, true_or, or_true, false_or, or_false, true_and, and_true, isPath, G1, P1, Bool.and_true, Bool.true_and, Bool.and_self, Bool.not_true, Bool.not_false]))
      rw [Bdy_eq]
      ((try simp only [E1, R1, N1, V_cons, bw, optI, tru, notB, V_bind, V_pure, V_guard, V_ite, V_some, V_getS, V_setS, getE, asgT, setE, setsE, kilE, wipeE, D.strips, D.strip, isNop, B1, S1, P1, List.map, List.append, List.replicate, List.set_cons_zero, List.set_cons_succ, List.getElem?_cons_zero, List.getElem?_cons_succ, List.cons_append, List.nil_append, Tg.slots, if_true, Bool.false_eq_true, if_false, reduceIte, List.length_cons, List.length_nil]); (try simp only [ne_eq, reduceCtorEq, not_false_eq_true, not_true_eq_false, true_or, or_true, false_or, or_false, true_and, and_true, isPath, G1, P1, Bool.and_true, Bool.true_and, Bool.and_self, Bool.not_true, Bool.not_false]))
      refine V_sum hp hsu ok.sst ok.sd ?_
      ((try simp only [E1, R1, N1, V_cons, bw, optI, tru, notB, V_bind, V_pure, V_guard, V_ite, V_some, V_getS, V_setS, getE, asgT, setE, setsE, kilE, wipeE, D.strips, D.strip, isNop, B1, S1, P1, List.map, List.append, List.replicate, List.set_cons_zero, List.set_cons_succ, List.getElem?_cons_zero, List.getElem?_cons_succ, List.cons_append, List.nil_append, Tg.slots, if_true, Bool.false_eq_true, if_false, reduceIte, List.length_cons, List.length_nil]); (try simp only [ne_eq, reduceCtorEq, not_false_eq_true, not_true_eq_false, true_or, or_true, false_or, or_false, true_and, and_true, isPath, G1, P1, Bool.and_true, Bool.true_and, Bool.and_self, Bool.not_true, Bool.not_false]))
      exact ih (st + d) (pNext p v d a) (v + a * d) mv R hb r
  refine loop rs 0 0 0 (.lst false (rs.map encR)) _ hb ?_
  ((try simp only [E1, R1, N1, V_cons, bw, optI, tru, notB, V_bind, V_pure, V_guard, V_ite, V_some, V_getS, V_setS, getE, asgT, setE, setsE, kilE, wipeE, D.strips, D.strip, isNop, B1, S1, P1, List.map, List.append, List.replicate, List.set_cons_zero, List.set_cons_succ, List.getElem?_cons_zero, List.getElem?_cons_succ, List.cons_append, List.nil_append, Tg.slots, if_true, Bool.false_eq_true, if_false, reduceIte, List.length_cons, List.length_nil]); (try simp only [ne_eq, reduceCtorEq, not_false_eq_true, not_true_eq_false, true_or, or_true, false_or, or_false, true_and, and_true, isPath, G1, P1, Bool.and_true, Bool.true_and, Bool.and_self, Bool.not_true, Bool.not_false]))
  exact q
theorem V_total (h2 : Γ "total" = some d_total) {xs : List Rat} (f : Rat → List Rat → Rat) (hf0 : ∀ z, f z [] = z) (hf1 : ∀ z x xs, f z (x :: xs) = f (z + x) xs) (B : List Rat → Rat → Prop) (hB : ∀ x xs z, B (x :: xs) z → Sm z ∧ Sm x ∧ B xs (z + x)) (hb : B xs 0) (q : Q (.rat (f 0 xs)) s) : V (callF Γ (k + 1) "total" [.lst false (xs.map .rat)]) s Q := by
  refine V_call h2 rfl ?_
  simp only [d_total]
  ((try simp only [E1, R1, N1, V_cons, bw, optI, tru, notB, V_bind, V_pure, V_guard, V_ite, V_some, V_getS, V_setS, getE, asgT, setE, setsE, kilE, wipeE, D.strips, D.strip, isNop, B1, S1, P1, List.map, List.append, List.replicate, List.set_cons_zero, List.set_cons_succ, List.getElem?_cons_zero, List.getElem?_cons_succ, List.cons_append, List.nil_append, Tg.slots, if_true, Bool.false_eq_true, if_false, reduceIte, List.length_cons, List.length_nil]); (try simp only [ne_eq, reduceCtorEq, not_false_eq_true, not_true_eq_false, true_or, or_true, false_or, or_false, true_and, and_true, isPath, G1, P1, Bool.and_true, Bool.true_and, Bool.and_self, Bool.not_true, Bool.not_false]))
  have no : D.noOwns (xs.map .rat) = true := by
    generalize xs = ys
    induction ys with
    | nil => rfl
    | cons x xs ih => exact ih
  refine ⟨no, no, ?_⟩
  have loop : ∀ (ys : List Rat) (z : Rat) (mv : D) (R : Fl → Strm → Prop), B ys z → R (.nx [some mv, some (.rat (f z ys)), none]) s →
      V (forL (Bdy (callF Γ k) (.cons (.asg (.nm 1) (.bin .add (.var 1) (.var 2))) .nil)) (.nm 2) [2] (ys.map .rat) [some mv, some (.rat z), none]) s R := by
    intro ys
    induction ys with
    | nil =>
      intro z mv R _ r
      rw [List.map_nil, forL]
      rw [hf0] at r
      exact V_pure.mpr r
    | cons x xs ih =>
      intro z mv R hb r
      obtain ⟨b1, b2, b3⟩ := hB _ _ _ hb
      rw [List.map_cons, forL]
      ((try simp only [E1, R1, N1, V_cons, bw, optI, tru, notB, V_bind, V_pure, V_guard, V_ite, V_some, V_getS, V_setS, getE, asgT, setE, setsE, kilE, wipeE, D.strips, D.strip, isNop, B1, S1, P1, List.map, List.append, List.replicate, List.set_cons_zero, List.set_cons_succ, List.getElem?_cons_zero, List.getElem?_cons_succ, List.cons_append, List.nil_append, Tg.slots, if_true, Bool.false_eq_true, if_false, reduceIte, List.length_cons, List.length_nil]); (try simp only [ne_eq, reduceCtorEq, not_false_eq_true, not_true_eq_false, true_or, or_true, false_or, or_false, true_and, and_true, isPath, G1, P1, Bool.and_true, Bool.true_and, Bool.and_self, Bool.not_true, Bool.not_false]))
      rw [Bdy_eq]
      ((try simp only [E1, R1, N1, V_cons, bw, optI, tru, notB, V_bind, V_pure, V_guard, V_ite, V_some, V_getS, V_setS, getE, asgT, setE, setsE, kilE, wipeE, D.strips, D.strip, isNop, B1, S1, P1, List.map, List.append, List.replicate, List.set_cons_zero, List.set_cons_succ, List.getElem?_cons_zero, List.getElem?_cons_succ, List.cons_append, List.nil_append, Tg.slots, if_true, Bool.false_eq_true, if_false, reduceIte, List.length_cons, List.length_nil]); (try simp only [ne_eq, reduceCtorEq, not_false_eq_true, not_true_eq_false, true_or, or_true, false_or, or_false, true_and, and_true, isPath, G1, P1, Bool.and_true, Bool.true_and, Bool.and_self, Bool.not_true, Bool.not_false]))
      rw [hf1] at r
      exact ⟨⟨b1, b2⟩, ih (z + x) mv R b3 r⟩
  refine loop xs 0 (.lst false (xs.map .rat)) _ hb ?_
  ((try simp only [E1, R1, N1, V_cons, bw, optI, tru, notB, V_bind, V_pure, V_guard, V_ite, V_some, V_getS, V_setS, getE, asgT, setE, setsE, kilE, wipeE, D.strips, D.strip, isNop, B1, S1, P1, List.map, List.append, List.replicate, List.set_cons_zero, List.set_cons_succ, List.getElem?_cons_zero, List.getElem?_cons_succ, List.cons_append, List.nil_append, Tg.slots, if_true, Bool.false_eq_true, if_false, reduceIte, List.length_cons, List.length_nil]); (try simp only [ne_eq, reduceCtorEq, not_false_eq_true, not_true_eq_false, true_or, or_true, false_or, or_false, true_and, and_true, isPath, G1, P1, Bool.and_true, Bool.true_and, Bool.and_self, Bool.not_true, Bool.not_false]))
  exact q
end
end Mp

namespace Mp
open PySem (Str CmpOp)
def d_position : MDef := ⟨2, 2, (.cons (.ret (.ix (.call "state_at" (.cons (.var 0) (.cons (.var 1) .nil))) (.int 0))) .nil)⟩
def d_speed : MDef := ⟨2, 2, (.cons (.ret (.ix (.call "state_at" (.cons (.var 0) (.cons (.var 1) .nil))) (.int 1))) .nil)⟩
section
variable {Γ : String → Option MDef} {k : Nat} {s : Strm} {Q : D → Strm → Prop}
theorem V_is_less (h2 : Γ "is_less" = some d_is_less) {a b : Rat} (ha : Sm a) (hb : Sm b) (q : Q (.bl (decide (a < b))) s) : V (callF Γ (k + 1) "is_less" [.rat a, .rat b]) s Q := by
  refine V_call h2 rfl ?_
  simp only [d_is_less]
  ((try simp only [E1, R1, N1, V_cons, bw, optI, tru, notB, V_bind, V_pure, V_guard, V_ite, V_some, V_getS, V_setS, getE, asgT, setE, setsE, kilE, wipeE, D.strips, D.strip, isNop, B1, S1, P1, List.map, List.append, List.replicate, List.set_cons_zero, List.set_cons_succ, List.getElem?_cons_zero, List.getElem?_cons_succ, List.cons_append, List.nil_append, Tg.slots, if_true, Bool.false_eq_true, if_false, reduceIte, List.length_cons, List.length_nil]); (try simp only [ne_eq, reduceCtorEq, not_false_eq_true, not_true_eq_false, true_or, or_true, false_or, or_false, true_and, and_true, isPath, G1, P1, Bool.and_true, Bool.true_and, Bool.and_self, Bool.not_true, Bool.not_false]))
  refine ⟨sm_mul ha.num (by simpa using hb.den), sm_mul hb.num (by simpa using ha.den), ?_⟩
  have e : decide (a.num * (b.den : Int) < b.num * (a.den : Int)) = decide (a < b) := decide_eq_decide.mpr (Rat.lt_iff a b).symm
  rw [e]
  exact q
theorem V_is_negative (h2 : Γ "is_negative" = some d_is_negative) {a : Rat} (q : Q (.bl (decide (a < 0))) s) : V (callF Γ (k + 1) "is_negative" [.rat a]) s Q := by
  refine V_call h2 rfl ?_
  simp only [d_is_negative]
  ((try simp only [E1, R1, N1, V_cons, bw, optI, tru, notB, V_bind, V_pure, V_guard, V_ite, V_some, V_getS, V_setS, getE, asgT, setE, setsE, kilE, wipeE, D.strips, D.strip, isNop, B1, S1, P1, List.map, List.append, List.replicate, List.set_cons_zero, List.set_cons_succ, List.getElem?_cons_zero, List.getElem?_cons_succ, List.cons_append, List.nil_append, Tg.slots, if_true, Bool.false_eq_true, if_false, reduceIte, List.length_cons, List.length_nil]); (try simp only [ne_eq, reduceCtorEq, not_false_eq_true, not_true_eq_false, true_or, or_true, false_or, or_false, true_and, and_true, isPath, G1, P1, Bool.and_true, Bool.true_and, Bool.and_self, Bool.not_true, Bool.not_false]))
  have e : decide (a.num < 0) = decide (a < 0) := decide_eq_decide.mpr num_neg'
  rw [e]
  exact q
theorem V_length (ht : Γ "total" = some d_total) (h2 : Γ "length" = some d_length) {rs : List (Rat × Rat)} (hb : Bnd rs 0 0 0) (hl : rs.length < 1000) (q : Q (.rat (lenR rs 0)) s) : V (callF Γ (k + 2) "length" [.tup (rs.map encQ)]) s Q := by
  refine V_call h2 rfl ?_
  simp only [d_length]
  ((try simp only [E1, R1, N1, V_cons, bw, optI, tru, notB, V_bind, V_pure, V_guard, V_ite, V_some, V_getS, V_setS, getE, asgT, setE, setsE, kilE, wipeE, D.strips, D.strip, isNop, B1, S1, P1, List.map, List.append, List.replicate, List.set_cons_zero, List.set_cons_succ, List.getElem?_cons_zero, List.getElem?_cons_succ, List.cons_append, List.nil_append, Tg.slots, if_true, Bool.false_eq_true, if_false, reduceIte, List.length_cons, List.length_nil]); (try simp only [ne_eq, reduceCtorEq, not_false_eq_true, not_true_eq_false, true_or, or_true, false_or, or_false, true_and, and_true, isPath, G1, P1, Bool.and_true, Bool.true_and, Bool.and_self, Bool.not_true, Bool.not_false]))
  have no : D.noOwns (rs.map encQ) = true := by
    generalize rs = xs
    induction xs with
    | nil => rfl
    | cons x xs ih => exact ih
  refine ⟨no, ⟨by rw [List.length_map]; exact Nat.le_of_lt (Nat.lt_trans hl (by decide)), no⟩, ?_⟩
  refine V_map (g := fun x => match x with | .tup (d :: _) => d | x => x) _ (fun x hx R hR => ?_) ?_
  · obtain ⟨r, hr, rfl⟩ := List.mem_map.mp hx
    rw [Elm_eq]
    unfold encQ at hR ⊢
    ((try simp only [E1, R1, N1, V_cons, bw, optI, tru, notB, V_bind, V_pure, V_guard, V_ite, V_some, V_getS, V_setS, getE, asgT, setE, setsE, kilE, wipeE, D.strips, D.strip, isNop, B1, S1, P1, List.map, List.append, List.replicate, List.set_cons_zero, List.set_cons_succ, List.getElem?_cons_zero, List.getElem?_cons_succ, List.cons_append, List.nil_append, Tg.slots, if_true, Bool.false_eq_true, if_false, reduceIte, List.length_cons, List.length_nil]); (try simp only [ne_eq, reduceCtorEq, not_false_eq_true, not_true_eq_false, true_or, or_true, false_or, or_false, true_and, and_true, isPath, G1, P1, Bool.and_true, Bool.true_and, Bool.and_self, Bool.not_true, Bool.not_false]))
    exact hR
  · rw [List.map_map]
    have e : rs.map ((fun x => match x with | .tup (d :: _) => d | x => x) ∘ encQ) = (rs.map (·.1)).map .rat := by rw [List.map_map]; rfl
    rw [e]
    ((try simp only [E1, R1, N1, V_cons, bw, optI, tru, notB, V_bind, V_pure, V_guard, V_ite, V_some, V_getS, V_setS, getE, asgT, setE, setsE, kilE, wipeE, D.strips, D.strip, isNop, B1, S1, P1, List.map, List.append, List.replicate, List.set_cons_zero, List.set_cons_succ, List.getElem?_cons_zero, List.getElem?_cons_succ, List.cons_append, List.nil_append, Tg.slots, if_true, Bool.false_eq_true, if_false, reduceIte, List.length_cons, List.length_nil]); (try simp only [ne_eq, reduceCtorEq, not_false_eq_true, not_true_eq_false, true_or, or_true, false_or, or_false, true_and, and_true, isPath, G1, P1, Bool.and_true, Bool.true_and, Bool.and_self, Bool.not_true, Bool.not_false]))
    have st : D.strips ((rs.map (·.1)).map .rat) = (rs.map (·.1)).map .rat := by
      generalize rs.map (·.1) = xs
      induction xs with
      | nil => rfl
      | cons x xs ih => exact congrArg (D.rat x :: ·) ih
    rw [st]
    have aux : ∀ (xs : List (Rat × Rat)) (z : Rat), lenR xs z = (xs.map (·.1)).foldl (· + ·) z := by
      intro xs
      induction xs with
      | nil => intro z; rfl
      | cons x xs ih => intro z; exact ih _
    rw [aux] at q
    refine V_total ht (fun z xs => xs.foldl (· + ·) z) (fun _ => rfl) (fun _ _ _ => rfl) (fun xs z => ∃ rs p v, xs = rs.map (·.1) ∧ Bnd rs z p v) ?_ ⟨rs, 0, 0, rfl, hb⟩ ⟨rfl, q⟩
    rintro x xs z ⟨ys, p, v, e, b⟩
    cases ys with
    | nil => cases e
    | cons y ys =>
      cases e
      exact ⟨b.1.sst, b.1.sd, ys, _, _, rfl, b.2⟩
/-! ### where a move is -/
def find (t : Rat) : List Pc → Option Pc
  | [] => none
  | x :: xs => if x.en < t then find t xs else some x
def stP (x : Pc) (u : Rat) : Rat × Rat := (pNext x.p x.v u x.a, x.v + x.a * u)
def stAt (rs : List (Rat × Rat)) (t : Rat) : Rat × Rat := if t < 0 then (0, 0) else match find t (pcs rs 0 0 0) with
  | some x => stP x (t - x.st)
  | none => ((pEnd rs 0 0 0).2.1, 0)
theorem strips_encP : ∀ (ps : List Pc), D.strips (ps.map encP) = ps.map encP
  | [] => rfl
  | p :: ps => congrArg (encP p :: ·) (strips_encP ps)
theorem strips_encQ : ∀ (ps : List (Rat × Rat)), D.strips (ps.map encQ) = ps.map encQ
  | [] => rfl
  | p :: ps => congrArg (encQ p :: ·) (strips_encQ ps)
theorem noOwns_encP : ∀ (ps : List Pc), D.noOwns (ps.map encP) = true
  | [] => rfl
  | p :: ps => noOwns_encP ps
theorem ix_last {o : Bool} {ds : List D} {d : D} : ixD (.lst o (ds ++ [d])) (.int (-1)) = pure d := by
  show ofO ((pix (ds ++ [d]).length (-1)).bind fun j => (ds ++ [d])[j]?) = _
  have e : pix (ds ++ [d]).length (-1) = some ds.length := by
    unfold pix
    rw [if_neg (by decide), if_pos (by rw [List.length_append]; simp; omega), List.length_append]
    simp
    omega
  rw [e]
  show ofO ((ds ++ [d])[ds.length]?) = _
  rw [List.getElem?_append_right (Nat.le_refl _), Nat.sub_self]
  rfl
/-- the last piece, and how the move ends there -/
theorem pcs_last : ∀ (rs : List (Rat × Rat)) (d a st p v : Rat), ∃ ps x, pcs (rs ++ [(d, a)]) st p v = ps ++ [x] ∧ x.a = a ∧ x.en = x.st + d ∧ (pEnd (rs ++ [(d, a)]) st p v) = (x.en, pNext x.p x.v d a, x.v + a * d)
  | [], d, a, st, p, v => ⟨[], _, rfl, rfl, rfl, rfl⟩
  | (d', a') :: rs, d, a, st, p, v => by
    obtain ⟨ps, x, h1, h2, h3, h4⟩ := pcs_last rs d a (st + d') (pNext p v d' a') (v + a' * d')
    exact ⟨_ :: ps, x, congrArg (_ :: ·) h1, h2, h3, h4⟩
theorem pcs_step : ∀ (rs : List (Rat × Rat)) (st p v : Rat), Bnd rs st p v → ∀ x ∈ pcs rs st p v, Sm x.st ∧ ∃ d, x.en = x.st + d ∧ StepOk x.st x.p x.v d x.a
  | [], _, _, _, _, x, h => by cases h
  | (d, a) :: rs, st, p, v, b, x, h => by
    rcases List.mem_cons.mp h with rfl | h
    · exact ⟨b.1.sst, d, rfl, b.1⟩
    · exact pcs_step rs _ _ _ b.2 x h
theorem V_state_at (hh : Γ "half" = some d_half) (hpi : Γ "pieces" = some d_pieces) (hle : Γ "is_less" = some d_is_less) (hng : Γ "is_negative" = some d_is_negative) (h2 : Γ "state_at" = some d_state_at) {rs : List (Rat × Rat)} {d a t : Rat} (hb : Bnd (rs ++ [(d, a)]) 0 0 0) (hl : (rs ++ [(d, a)]).length < 1000)
    (ht : Sm t) (he : ∀ x ∈ pcs (rs ++ [(d, a)]) 0 0 0, Sm x.en) (hf' : ∀ x, find t (pcs (rs ++ [(d, a)]) 0 0 0) = some x → StepOk x.st x.p x.v (t - x.st) x.a) (q : Q (.tup [.rat (stAt (rs ++ [(d, a)]) t).1, .rat (stAt (rs ++ [(d, a)]) t).2]) s) : V (callF Γ (k + 3) "state_at" [.tup ((rs ++ [(d, a)]).map encQ), .rat t]) s Q := by
  refine V_call h2 rfl ?_
  have no : D.noOwns ((rs ++ [(d, a)]).map encQ) = true := by
    generalize rs ++ [(d, a)] = xs
    induction xs with
    | nil => rfl
    | cons x xs ih => exact ih
  simp only [d_state_at]
  ((try simp only [E1, R1, N1, V_cons, bw, optI, tru, notB, V_bind, V_pure, V_guard, V_ite, V_some, V_getS, V_setS, getE, asgT, setE, setsE, kilE, wipeE, D.strips, D.strip, isNop, B1, S1, P1, List.map, List.append, List.replicate, List.set_cons_zero, List.set_cons_succ, List.getElem?_cons_zero, List.getElem?_cons_succ, List.cons_append, List.nil_append, Tg.slots, if_true, Bool.false_eq_true, if_false, reduceIte, List.length_cons, List.length_nil]); (try simp only [ne_eq, reduceCtorEq, not_false_eq_true, not_true_eq_false, true_or, or_true, false_or, or_false, true_and, and_true, isPath, G1, P1, Bool.and_true, Bool.true_and, Bool.and_self, Bool.not_true, Bool.not_false]))
  refine V_is_negative hng ?_
  ((try simp only [E1, R1, N1, V_cons, bw, optI, tru, notB, V_bind, V_pure, V_guard, V_ite, V_some, V_getS, V_setS, getE, asgT, setE, setsE, kilE, wipeE, D.strips, D.strip, isNop, B1, S1, P1, List.map, List.append, List.replicate, List.set_cons_zero, List.set_cons_succ, List.getElem?_cons_zero, List.getElem?_cons_succ, List.cons_append, List.nil_append, Tg.slots, if_true, Bool.false_eq_true, if_false, reduceIte, List.length_cons, List.length_nil]); (try simp only [ne_eq, reduceCtorEq, not_false_eq_true, not_true_eq_false, true_or, or_true, false_or, or_false, true_and, and_true, isPath, G1, P1, Bool.and_true, Bool.true_and, Bool.and_self, Bool.not_true, Bool.not_false]))
  unfold stAt at q
  by_cases h0 : t < 0
  · rw [if_pos (decide_eq_true h0)]
    rw [if_pos h0] at q
    exact q
  · rw [if_neg (by simpa using h0)]
    rw [if_neg h0] at q
    rw [strips_encQ]
    refine V_pieces hh hpi hb hl ?_
    simp only [D.strip, strips_encP]
    ((try simp only [E1, R1, N1, V_cons, bw, optI, tru, notB, V_bind, V_pure, V_guard, V_ite, V_some, V_getS, V_setS, getE, asgT, setE, setsE, kilE, wipeE, D.strips, D.strip, isNop, B1, S1, P1, List.map, List.append, List.replicate, List.set_cons_zero, List.set_cons_succ, List.getElem?_cons_zero, List.getElem?_cons_succ, List.cons_append, List.nil_append, Tg.slots, if_true, Bool.false_eq_true, if_false, reduceIte, List.length_cons, List.length_nil]); (try simp only [ne_eq, reduceCtorEq, not_false_eq_true, not_true_eq_false, true_or, or_true, false_or, or_false, true_and, and_true, isPath, G1, P1, Bool.and_true, Bool.true_and, Bool.and_self, Bool.not_true, Bool.not_false]))
    rw [noOwns_encP]
    refine ⟨.inr no, rfl, rfl, ?_⟩
    have loop : ∀ (ps : List Pc) (mv rw' : D) (R : Fl → Strm → Prop), (∀ x ∈ ps, Sm x.en ∧ Sm x.st) → (∀ x, find t ps = some x → StepOk x.st x.p x.v (t - x.st) x.a) →
        (match find t ps with | some x => R (.ret (.tup [.rat (stP x (t - x.st)).1, .rat (stP x (t - x.st)).2])) s | none => R (.nx [some mv, some (.rat t), some rw', none, none, none, none, none, none]) s) →
        V (forL (Bdy (callF Γ (k + 2)) (.cons (.ite (.not (.call "is_less" (.cons (.var 4) (.cons (.var 1) .nil)))) (.cons (.asg (.nm 8) (.bin .sub (.var 1) (.var 3))) (.cons (.ret (.tup (.cons (.bin .add (.bin .add (.var 5) (.bin .mul (.var 6) (.var 8))) (.bin .mul (.bin .mul (.call "half" (.cons (.var 7) .nil)) (.var 8)) (.var 8))) (.cons (.bin .add (.var 6) (.bin .mul (.var 7) (.var 8))) .nil)))) .nil)) .nil) .nil)) (.tup [3, 4, 5, 6, 7]) [3, 4, 5, 6, 7, 8] (ps.map encP)
          [some mv, some (.rat t), some rw', none, none, none, none, none, none]) s R := by
      intro ps
      induction ps with
      | nil =>
        intro mv rw' R _ _ r
        rw [List.map_nil, forL]
        exact V_pure.mpr r
      | cons x xs ih =>
        intro mv rw' R hs hfi r
        obtain ⟨se, ss⟩ := hs x List.mem_cons_self
        rw [List.map_cons, forL]
        unfold encP
        ((try simp only [E1, R1, N1, V_cons, bw, optI, tru, notB, V_bind, V_pure, V_guard, V_ite, V_some, V_getS, V_setS, getE, asgT, setE, setsE, kilE, wipeE, D.strips, D.strip, isNop, B1, S1, P1, List.map, List.append, List.replicate, List.set_cons_zero, List.set_cons_succ, List.getElem?_cons_zero, List.getElem?_cons_succ, List.cons_append, List.nil_append, Tg.slots, if_true, Bool.false_eq_true, if_false, reduceIte, List.length_cons, List.length_nil]); (try simp only [ne_eq, reduceCtorEq, not_false_eq_true, not_true_eq_false, true_or, or_true, false_or, or_false, true_and, and_true, isPath, G1, P1, Bool.and_true, Bool.true_and, Bool.and_self, Bool.not_true, Bool.not_false]))
        rw [Bdy_eq]
        ((try simp only [E1, R1, N1, V_cons, bw, optI, tru, notB, V_bind, V_pure, V_guard, V_ite, V_some, V_getS, V_setS, getE, asgT, setE, setsE, kilE, wipeE, D.strips, D.strip, isNop, B1, S1, P1, List.map, List.append, List.replicate, List.set_cons_zero, List.set_cons_succ, List.getElem?_cons_zero, List.getElem?_cons_succ, List.cons_append, List.nil_append, Tg.slots, if_true, Bool.false_eq_true, if_false, reduceIte, List.length_cons, List.length_nil]); (try simp only [ne_eq, reduceCtorEq, not_false_eq_true, not_true_eq_false, true_or, or_true, false_or, or_false, true_and, and_true, isPath, G1, P1, Bool.and_true, Bool.true_and, Bool.and_self, Bool.not_true, Bool.not_false]))
        refine V_is_less hle se ht ?_
        ((try simp only [E1, R1, N1, V_cons, bw, optI, tru, notB, V_bind, V_pure, V_guard, V_ite, V_some, V_getS, V_setS, getE, asgT, setE, setsE, kilE, wipeE, D.strips, D.strip, isNop, B1, S1, P1, List.map, List.append, List.replicate, List.set_cons_zero, List.set_cons_succ, List.getElem?_cons_zero, List.getElem?_cons_succ, List.cons_append, List.nil_append, Tg.slots, if_true, Bool.false_eq_true, if_false, reduceIte, List.length_cons, List.length_nil]); (try simp only [ne_eq, reduceCtorEq, not_false_eq_true, not_true_eq_false, true_or, or_true, false_or, or_false, true_and, and_true, isPath, G1, P1, Bool.and_true, Bool.true_and, Bool.and_self, Bool.not_true, Bool.not_false]))
        unfold find at hfi r
        by_cases hlt : x.en < t
        · rw [if_pos hlt] at hfi r
          rw [show (!decide (x.en < t)) = false by simpa using hlt]
          ((try simp only [E1, R1, N1, V_cons, bw, optI, tru, notB, V_bind, V_pure, V_guard, V_ite, V_some, V_getS, V_setS, getE, asgT, setE, setsE, kilE, wipeE, D.strips, D.strip, isNop, B1, S1, P1, List.map, List.append, List.replicate, List.set_cons_zero, List.set_cons_succ, List.getElem?_cons_zero, List.getElem?_cons_succ, List.cons_append, List.nil_append, Tg.slots, if_true, Bool.false_eq_true, if_false, reduceIte, List.length_cons, List.length_nil]); (try simp only [ne_eq, reduceCtorEq, not_false_eq_true, not_true_eq_false, true_or, or_true, false_or, or_false, true_and, and_true, isPath, G1, P1, Bool.and_true, Bool.true_and, Bool.and_self, Bool.not_true, Bool.not_false]))
          exact ih mv rw' R (fun y hy => hs y (List.mem_cons_of_mem _ hy)) hfi r
        · rw [if_neg hlt] at hfi r
          have ok := hfi x rfl
          rw [show (!decide (x.en < t)) = true by simpa using hlt]
          ((try simp only [E1, R1, N1, V_cons, bw, optI, tru, notB, V_bind, V_pure, V_guard, V_ite, V_some, V_getS, V_setS, getE, asgT, setE, setsE, kilE, wipeE, D.strips, D.strip, isNop, B1, S1, P1, List.map, List.append, List.replicate, List.set_cons_zero, List.set_cons_succ, List.getElem?_cons_zero, List.getElem?_cons_succ, List.cons_append, List.nil_append, Tg.slots, if_true, Bool.false_eq_true, if_false, reduceIte, List.length_cons, List.length_nil]); (try simp only [ne_eq, reduceCtorEq, not_false_eq_true, not_true_eq_false, true_or, or_true, false_or, or_false, true_and, and_true, isPath, G1, P1, Bool.and_true, Bool.true_and, Bool.and_self, Bool.not_true, Bool.not_false]))
          refine ⟨⟨ht, ss⟩, ⟨ok.sv, ok.sd⟩, ⟨ok.sp, ok.vd⟩, V_half hh ok.sa ?_⟩
          ((try simp only [E1, R1, N1, V_cons, bw, optI, tru, notB, V_bind, V_pure, V_guard, V_ite, V_some, V_getS, V_setS, getE, asgT, setE, setsE, kilE, wipeE, D.strips, D.strip, isNop, B1, S1, P1, List.map, List.append, List.replicate, List.set_cons_zero, List.set_cons_succ, List.getElem?_cons_zero, List.getElem?_cons_succ, List.cons_append, List.nil_append, Tg.slots, if_true, Bool.false_eq_true, if_false, reduceIte, List.length_cons, List.length_nil]); (try simp only [ne_eq, reduceCtorEq, not_false_eq_true, not_true_eq_false, true_or, or_true, false_or, or_false, true_and, and_true, isPath, G1, P1, Bool.and_true, Bool.true_and, Bool.and_self, Bool.not_true, Bool.not_false]))
          exact ⟨⟨ok.ah, ok.sd⟩, ⟨ok.ahd, ok.sd⟩, ⟨ok.pvd, ok.ahdd⟩, ⟨ok.sa, ok.sd⟩, ⟨ok.sv, ok.ad⟩, r⟩
    refine loop _ _ _ _ (fun x hx => ⟨he x hx, (pcs_step _ _ _ _ hb x hx).1⟩) hf' ?_
    cases hfi : find t (pcs (rs ++ [(d, a)]) 0 0 0) with
    | some x =>
      rw [hfi] at q
      ((try simp only [E1, R1, N1, V_cons, bw, optI, tru, notB, V_bind, V_pure, V_guard, V_ite, V_some, V_getS, V_setS, getE, asgT, setE, setsE, kilE, wipeE, D.strips, D.strip, isNop, B1, S1, P1, List.map, List.append, List.replicate, List.set_cons_zero, List.set_cons_succ, List.getElem?_cons_zero, List.getElem?_cons_succ, List.cons_append, List.nil_append, Tg.slots, if_true, Bool.false_eq_true, if_false, reduceIte, List.length_cons, List.length_nil]); (try simp only [ne_eq, reduceCtorEq, not_false_eq_true, not_true_eq_false, true_or, or_true, false_or, or_false, true_and, and_true, isPath, G1, P1, Bool.and_true, Bool.true_and, Bool.and_self, Bool.not_true, Bool.not_false]))
      exact q
    | none =>
      rw [hfi] at q
      obtain ⟨ps, x, h1, h2, h3, h4⟩ := pcs_last rs d a 0 0 0
      have hx : x ∈ pcs (rs ++ [(d, a)]) 0 0 0 := by rw [h1]; simp
      obtain ⟨ss, d', e', ok⟩ := pcs_step _ _ _ _ hb x hx
      have ed : x.en - x.st = d' := by rw [e']; grind
      rw [h4] at q
      have ed2 : d' = d := by rw [e'] at h3; grind
      rw [h1]
      simp only [E1, R1, N1, V_cons, bw, optI, tru, notB, V_bind, V_pure, V_guard, V_ite, V_some, V_getS, V_setS, getE, asgT, setE, setsE, kilE, wipeE, D.strips, D.strip, isNop, B1, S1, P1, List.map, List.append, List.replicate, List.set_cons_zero, List.set_cons_succ, List.getElem?_cons_zero, List.getElem?_cons_succ, List.cons_append, List.nil_append, Tg.slots, if_true, Bool.false_eq_true, if_false, reduceIte, List.length_cons, List.length_nil]
      rw [show (ps ++ [x]).map encP = ps.map encP ++ [encP x] by rw [List.map_append]; rfl, ix_last, show encP x = .tup [.rat x.st, .rat x.en, .rat x.p, .rat x.v, .rat x.a] from rfl]
      ((try simp only [E1, R1, N1, V_cons, bw, optI, tru, notB, V_bind, V_pure, V_guard, V_ite, V_some, V_getS, V_setS, getE, asgT, setE, setsE, kilE, wipeE, D.strips, D.strip, isNop, B1, S1, P1, List.map, List.append, List.replicate, List.set_cons_zero, List.set_cons_succ, List.getElem?_cons_zero, List.getElem?_cons_succ, List.cons_append, List.nil_append, Tg.slots, if_true, Bool.false_eq_true, if_false, reduceIte, List.length_cons, List.length_nil]); (try simp only [ne_eq, reduceCtorEq, not_false_eq_true, not_true_eq_false, true_or, or_true, false_or, or_false, true_and, and_true, isPath, G1, P1, Bool.and_true, Bool.true_and, Bool.and_self, Bool.not_true, Bool.not_false]))
      rw [ed]
      have sm0 : Sm x.en := he x hx
      refine ⟨⟨sm0, ss⟩, ⟨ok.sv, ok.sd⟩, ⟨ok.sp, ok.vd⟩, V_half hh ok.sa ?_⟩
      ((try simp only [E1, R1, N1, V_cons, bw, optI, tru, notB, V_bind, V_pure, V_guard, V_ite, V_some, V_getS, V_setS, getE, asgT, setE, setsE, kilE, wipeE, D.strips, D.strip, isNop, B1, S1, P1, List.map, List.append, List.replicate, List.set_cons_zero, List.set_cons_succ, List.getElem?_cons_zero, List.getElem?_cons_succ, List.cons_append, List.nil_append, Tg.slots, if_true, Bool.false_eq_true, if_false, reduceIte, List.length_cons, List.length_nil]); (try simp only [ne_eq, reduceCtorEq, not_false_eq_true, not_true_eq_false, true_or, or_true, false_or, or_false, true_and, and_true, isPath, G1, P1, Bool.and_true, Bool.true_and, Bool.and_self, Bool.not_true, Bool.not_false]))
      refine ⟨⟨ok.ah, ok.sd⟩, ⟨ok.ahd, ok.sd⟩, ⟨ok.pvd, ok.ahdd⟩, ?_⟩
      rw [ed2, h2]
      exact q
end
theorem V_ok {α : Type} {m : M α} {s : Strm} {Q : α → Strm → Prop} (h : V m s Q) : ∃ a s', m s = .ok a s' ∧ Q a s' := by
  unfold V W at h
  cases e : m s with
  | ok a s' => rw [e] at h; exact ⟨a, s', rfl, h⟩
  | err c s' => rw [e] at h; exact h.elim
  | bad => rw [e] at h; exact h.elim
theorem ints_map : ∀ ns : List Int, intsD (ns.map .int) = some ns
  | [] => rfl
  | n :: ns => by
    show (intsD (ns.map .int)).map (n :: ·) = _
    rw [ints_map ns]; rfl
theorem lawOk_of {Γ : String → Option MDef} {k n : Nat} {rest : MSs} (hs : Γ "_law_stream" = some d__law_stream)
    (h : ∀ (ns : List Int) (s : Strm), ns.length ≤ 63 → Sok s → V (runs (callF Γ (k + 1)) (some (.scr ns) :: some .strm :: List.replicate n none) rest) s fun r _ => r = .ret (.bl true)) : LawOk Γ (k + 1) n rest := by
  intro ns hl
  obtain ⟨d, s', e, rfl, m, m0, m1, rfl⟩ := V_ok (V_stream (k := k) (s := ⟨[], 0, 0, 0⟩) (Q := fun d s' => s' = ⟨[], 0, 0, 0⟩ ∧ ∃ m : Int, 0 ≤ m ∧ m < 2147483647 ∧ d = .lst true [.lst true (ns.map .int), .int 0, .int 0, .int m]) hs (ns := ns) fun m m0 m1 => ⟨rfl, m, m0, m1, rfl⟩)
  refine ⟨_, ⟨ns, 0, 0, m⟩, e, ?_, Nat.le_trans hl (by decide), V_out (h ns _ hl ⟨Int.le_refl _, m0, m1⟩)⟩
  show (intsD (ns.map .int)).map _ = _
  rw [ints_map]; rfl
theorem can_prs (xs ys : List Rat) (o o' : Bool) : canCmp (.lst o (xs.map pr)) (.lst o' (ys.map pr)) = true := by
  have h : ∀ zs : List Rat, D.plains (zs.map pr) 39 = true := by
    intro zs
    induction zs with
    | nil => rfl
    | cons z zs ih =>
      show ((pr z).plain 39 && D.plains (zs.map pr) 39) = true
      rw [ih]; rfl
  show (false || (D.plains (xs.map pr) 39 && D.plains (ys.map pr) 39)) = true
  rw [h, h]; rfl
theorem eqv_prs : ∀ xs : List Rat, D.eqvs (xs.map pr) (xs.map pr) = some true
  | [] => rfl
  | x :: xs => by
    show (match D.eqv (pr x) (pr x) with | some true => D.eqvs (xs.map pr) (xs.map pr) | r => r) = _
    rw [eqv_pr, beq_self_eq_true]
    exact eqv_prs xs
end Mp

namespace Mp
open PySem (Str CmpOp)
theorem cmpNe_prs (xs : List Rat) (o o' : Bool) : cmpD .NotEq (.lst o (xs.map pr)) (.lst o' (xs.map pr)) = pure false := by
  have e : D.eqv (.lst o (xs.map pr)) (.lst o' (xs.map pr)) = some true := by
    show (if (xs.map pr).length = (xs.map pr).length then D.eqvs (xs.map pr) (xs.map pr) else some false) = _
    rw [if_pos rfl, eqv_prs]
  show (do guardM (canC true (.lst o (xs.map pr)) (.lst o' (xs.map pr)) = true); let r ← ofO (D.eqv (.lst o (xs.map pr)) (.lst o' (xs.map pr))); pure (!r)) = (pure false : M Bool)
  rw [e]
  unfold guardM
  rw [if_pos (show canC true (.lst o (xs.map pr)) (.lst o' (xs.map pr)) = true by unfold canC; rw [can_prs]; rfl)]
  rfl
theorem cmpEq_pr (a b : Rat) : cmpD .Eq (pr a) (pr b) = pure (a == b) := by
  show (do guardM (canC false (pr a) (pr b) = true); ofO (D.eqv (pr a) (pr b))) = (pure (a == b) : M Bool)
  rw [eqv_pr]
  rfl
theorem cmpNe_pr (a b : Rat) : cmpD .NotEq (pr a) (pr b) = pure (!(a == b)) := by
  show (do guardM (canC true (pr a) (pr b) = true); let r ← ofO (D.eqv (pr a) (pr b)); pure (!r)) = (pure (!(a == b)) : M Bool)
  rw [eqv_pr]
  rfl
theorem noShrs_encQ : ∀ (rs : List (Rat × Rat)), D.noShrs (rs.map encQ) = true
  | [] => rfl
  | r :: rs => noShrs_encQ rs
theorem noOwns_encQ : ∀ (rs : List (Rat × Rat)), D.noOwns (rs.map encQ) = true
  | [] => rfl
  | r :: rs => noOwns_encQ rs
theorem noShrs_encL : ∀ (rs : List Pc) (e : Rat × Rat × Rat), D.noShrs (rs.map encL ++ [encE e]) = true
  | [], _ => rfl
  | r :: rs, e => noShrs_encL rs e
theorem noShrs_encP : ∀ (rs : List Pc), D.noShrs (rs.map encP) = true
  | [] => rfl
  | r :: rs => noShrs_encP rs
theorem pcs_len : ∀ (xs : List (Rat × Rat)) (st p v : Rat), (pcs xs st p v).length = xs.length
  | [], _, _, _ => rfl
  | _ :: xs, _, _, _ => congrArg Nat.succ (pcs_len xs _ _ _)
theorem end_gt : ∀ (rs : List (Rat × Rat)) (st p v : Rat), (∀ r ∈ rs, 0 < r.1) → st ≤ (pEnd rs st p v).1 ∧ (rs ≠ [] → st < (pEnd rs st p v).1)
  | [], st, p, v, _ => ⟨Rat.le_refl, fun h => absurd rfl h⟩
  | (d, a) :: rs, st, p, v, h => by
    have h0 := h (d, a) List.mem_cons_self
    have := (end_gt rs (st + d) (pNext p v d a) (v + a * d) fun r hr => h r (List.mem_cons_of_mem _ hr)).1
    have e : (pEnd ((d, a) :: rs) st p v).1 = (pEnd rs (st + d) (pNext p v d a) (v + a * d)).1 := rfl
    have h0 : 0 < d := h0
    rw [e]
    exact ⟨by grind, fun _ => by grind⟩
theorem find_end : ∀ (rs : List (Rat × Rat)) (st p v : Rat), rs ≠ [] → (∀ r ∈ rs, 0 < r.1) → ∃ x ∈ pcs rs st p v, find (pEnd rs st p v).1 (pcs rs st p v) = some x ∧ x.en = (pEnd rs st p v).1 ∧ pNext x.p x.v (x.en - x.st) x.a = (pEnd rs st p v).2.1
  | [], _, _, _, h, _ => absurd rfl h
  | [(d, a)], st, p, v, _, h => by
    refine ⟨⟨st, st + d, p, v, a⟩, List.mem_cons_self, ?_, rfl, ?_⟩
    · show (if st + d < st + d then _ else some _) = _
      rw [if_neg (by grind)]
    · show pNext p v (st + d - st) a = pNext p v d a
      rw [show st + d - st = d by grind]
  | (d, a) :: r :: rs, st, p, v, _, h => by
    obtain ⟨x, h1, h2, h3, h4⟩ := find_end (r :: rs) (st + d) (pNext p v d a) (v + a * d) (by simp) fun q hq => h q (List.mem_cons_of_mem _ hq)
    refine ⟨x, List.mem_cons_of_mem _ h1, ?_, h3, h4⟩
    have lt := (end_gt (r :: rs) (st + d) (pNext p v d a) (v + a * d) fun q hq => h q (List.mem_cons_of_mem _ hq)).2 (by simp)
    show (if st + d < (pEnd (r :: rs) (st + d) (pNext p v d a) (v + a * d)).1 then _ else some _) = _
    rw [if_pos lt]
    exact h2
theorem en_of : ∀ (rs : List (Rat × Rat)) (i : Nat) {st p v : Rat}, rs.length + i ≤ 6 → (∀ r ∈ rs, Zb 30 20 r.1) → Zb (31 + 21 * i) (20 * i) st → (∀ x ∈ pcs rs st p v, Zb 157 120 x.en) ∧ Zb 157 120 (pEnd rs st p v).1
  | [], i, st, p, v, hi, _, zs => ⟨fun x h => (by cases h), zs.mono (by have : i ≤ 6 := (by simpa using hi); omega) (by have : i ≤ 6 := (by simpa using hi); omega)⟩
  | (d, a) :: rs, i, st, p, v, hi, hr, zs => by
    rw [List.length_cons] at hi
    have z1 := hr _ List.mem_cons_self
    have z2 : Zb (31 + 21 * (i + 1)) (20 * (i + 1)) (st + d) := (zs.add z1).mono (by omega) (by omega)
    obtain ⟨h1, h2⟩ := en_of rs (i + 1) (st := st + d) (p := pNext p v d a) (v := v + a * d) (by omega) (fun r h => hr r (List.mem_cons_of_mem _ h)) z2
    refine ⟨fun x hx => ?_, h2⟩
    rcases List.mem_cons.mp hx with rfl | hx
    · exact z2.mono (by omega) (by omega)
    · exact h1 x hx
theorem MoveOk.pos' {rs : List (Rat × Rat)} {d a : Rat} (m : MoveOk rs d a) : ∀ r ∈ rs ++ [(d, a)], 0 < r.1 := by
  intro r hr
  rcases List.mem_append.mp hr with h | h
  · exact (m.all r h).pos
  · cases List.mem_singleton.mp h
    exact m.pos
theorem MoveOk.zd' {rs : List (Rat × Rat)} {d a : Rat} (m : MoveOk rs d a) : ∀ r ∈ rs ++ [(d, a)], Zb 30 20 r.1 := by
  intro r hr
  rcases List.mem_append.mp hr with h | h
  · exact (m.all r h).d
  · cases List.mem_singleton.mp h
    exact m.zd
theorem MoveOk.sm {rs : List (Rat × Rat)} {d a : Rat} (m : MoveOk rs d a) : ∀ r ∈ rs ++ [(d, a)], Sm r.1 ∧ Sm r.2 := by
  intro r hr
  rcases List.mem_append.mp hr with h | h
  · exact ⟨(m.all r h).d.sm (by decide) (by decide), (m.all r h).a.sm (by decide) (by decide)⟩
  · cases List.mem_singleton.mp h
    exact ⟨m.zd.sm (by decide) (by decide), m.za.sm (by decide) (by decide)⟩
theorem MoveOk.len' {rs : List (Rat × Rat)} {d a : Rat} (m : MoveOk rs d a) : (rs ++ [(d, a)]).length ≤ 6 := by
  have := m.len
  rw [List.length_append]
  simp
  omega
theorem MoveOk.en {rs : List (Rat × Rat)} {d a : Rat} (m : MoveOk rs d a) : (∀ x ∈ pcs (rs ++ [(d, a)]) 0 0 0, Zb 157 120 x.en) ∧ Zb 157 120 (pEnd (rs ++ [(d, a)]) 0 0 0).1 :=
  en_of _ 0 (by have := m.len'; omega) m.zd' (Zb.zero.mono (by omega) (by omega))
theorem range_get {lo : Int} {n j : Nat} {x : D} (h : (rangeD lo n)[j]? = some x) : j < n ∧ x = .int (lo + j) := by
  unfold rangeD at h
  rw [List.getElem?_map] at h
  cases q : (List.range n)[j]? with
  | none => rw [q] at h; cases h
  | some z =>
    rw [q] at h
    cases h
    obtain ⟨h1, h2⟩ := List.getElem?_eq_some_iff.mp q
    rw [List.getElem_range] at h2
    subst h2
    rw [List.length_range] at h1
    exact ⟨h1, rfl⟩
end Mp

namespace Mp
open PySem (Str CmpOp)
/-! ### sheets of cues -/
def d_is_timing : MDef := ⟨2, 8, (.cons (.ite (.cmp .NotEq (.bi .len (.cons (.var 1) .nil)) (.bi .len (.cons (.var 0) .nil))) (.cons (.ret (.bl false)) .nil) .nil) (.cons (.loop (.tup [2, 3]) (.enum (.var 0)) (.cons (.asg (.tup [4, 5, 6]) (.var 3)) (.cons (.asg (.nm 7) (.ix (.var 1) (.var 2))) (.cons (.ite (.cmp .GtE (.var 4) (.int 0)) (.cons (.asg (.nm 7) (.bin .sub (.var 7) (.ix (.var 1) (.var 4)))) .nil) .nil) (.cons (.ite (.or (.call "is_less" (.cons (.var 7) (.cons (.var 5) .nil))) (.call "is_less" (.cons (.var 6) (.cons (.var 7) .nil)))) (.cons (.ret (.bl false)) .nil) .nil) .nil)))) [2, 3, 4, 5, 6, 7]) (.cons (.ret (.bl true)) .nil)))⟩
def d__law_sheet : MDef := ⟨1, 5, (.cons (.asg (.nm 1) (.lst .nil)) (.cons (.loop (.nm 2) (.rng (.bin .add (.int 1) (.call "_law_draw" (.cons (.var 0) (.cons (.ix (.lst (.cons (.int 4) (.cons (.int 8) .nil))) (.call "_law_draw" (.cons (.var 0) (.cons (.int 2) .nil)))) .nil))))) (.cons (.asg (.nm 3) (.call "_law_size" (.cons (.call "_law_number" (.cons (.var 0) .nil)) .nil))) (.cons (.asg (.nm 4) (.call "_law_sum" (.cons (.var 3) (.cons (.call "_law_size" (.cons (.call "_law_number" (.cons (.var 0) .nil)) .nil)) .nil)))) (.cons (.ite (.cmp .Eq (.call "_law_draw" (.cons (.var 0) (.cons (.int 5) .nil))) (.int 0)) (.cons (.asg (.nm 4) (.var 3)) .nil) .nil) (.cons (.app 1 (.tup (.cons (.bin .sub (.call "_law_draw" (.cons (.var 0) (.cons (.bin .add (.var 2) (.int 1)) .nil))) (.int 1)) (.cons (.var 3) (.cons (.var 4) .nil))))) .nil)))) [2, 3, 4]) (.cons (.retv 1) .nil)))⟩
def d__law_cues : MDef := ⟨1, 2, (.cons (.ret (.bi .tuple (.cons (.lc (.nm 1) (.seq (.var 0)) .nop (.tup (.cons (.ix (.var 1) (.int 0)) (.cons (.call "_law_ratio" (.cons (.ix (.var 1) (.int 1)) .nil)) (.cons (.call "_law_ratio" (.cons (.ix (.var 1) (.int 2)) .nil)) .nil))))) .nil))) .nil)⟩

structure SRow where
  p : Int
  lo : Rat
  hi : Rat
def encS (r : SRow) : D := .tup [.int r.p, pr r.lo, pr r.hi]
def encC (r : SRow) : D := .tup [.int r.p, .rat r.lo, .rat r.hi]
structure SrOk (k : Nat) (r : SRow) : Prop where
  p0 : -1 ≤ r.p
  p1 : r.p < k
  l0 : 0 ≤ r.lo
  lh : r.lo ≤ r.hi
  zl : Zb 30 20 r.lo
  zh : Zb 51 40 r.hi
def ShR (rs : List SRow) : Prop := ∀ k r, rs[k]? = some r → SrOk k r
structure ShOk (rs : List SRow) : Prop where
  len : rs.length ≤ 8
  pos : 0 < rs.length
  row : ShR rs
theorem ShR.snoc {rs : List SRow} {r : SRow} (h : ShR rs) (hr : SrOk rs.length r) : ShR (rs ++ [r]) := by
  intro k x hx
  rcases Nat.lt_or_ge k rs.length with hk | hk
  · rw [List.getElem?_append_left hk] at hx
    exact h k x hx
  · rw [List.getElem?_append_right hk] at hx
    have h0 : k - rs.length = 0 := by
      have := (List.getElem?_eq_some_iff.mp hx).1
      simp at this
      omega
    rw [h0] at hx
    cases hx
    have : k = rs.length := by omega
    rw [this]
    exact hr
theorem log_small {n : Int} (h : n.natAbs < 2 ^ 200) : n.natAbs.log2 < 9000 := by
  by_cases z : n.natAbs = 0
  · rw [z]; decide
  · have := (Nat.log2_lt z).mpr h
    omega
theorem pr_i (v : Int) : D.tup [.int v, .int 1] = pr (v : Rat) := rfl
theorem ra_nn (x : Rat) : 0 ≤ ra x := by
  unfold ra
  split
  · rename_i h; have := Rat.neg_lt_neg h; grind
  · rename_i h; exact Rat.not_lt.mp h
theorem noOwns_encS : ∀ (rs : List SRow), D.noOwns (rs.map encS) = true
  | [] => rfl
  | _ :: rs => noOwns_encS rs
theorem noShrs_encS : ∀ (rs : List SRow), D.noShrs (rs.map encS) = true
  | [] => rfl
  | _ :: rs => noShrs_encS rs
theorem strips_encS : ∀ (rs : List SRow), D.strips (rs.map encS) = rs.map encS
  | [] => rfl
  | r :: rs => congrArg (encS r :: ·) (strips_encS rs)
theorem noOwns_encC : ∀ (rs : List SRow), D.noOwns (rs.map encC) = true
  | [] => rfl
  | _ :: rs => noOwns_encC rs
theorem noShrs_encC : ∀ (rs : List SRow), D.noShrs (rs.map encC) = true
  | [] => rfl
  | _ :: rs => noShrs_encC rs
theorem strips_encC : ∀ (rs : List SRow), D.strips (rs.map encC) = rs.map encC
  | [] => rfl
  | r :: rs => congrArg (encC r :: ·) (strips_encC rs)
theorem noOwns_rats : ∀ (rs : List Rat), D.noOwns (rs.map .rat) = true
  | [] => rfl
  | _ :: rs => noOwns_rats rs
theorem strips_rats : ∀ (rs : List Rat), D.strips (rs.map .rat) = rs.map .rat
  | [] => rfl
  | r :: rs => congrArg (D.rat r :: ·) (strips_rats rs)
section
variable {Γ : String → Option MDef} {k : Nat} {s : Strm} {Q : D → Strm → Prop}
theorem V_sheet (hd : Γ "_law_draw" = some d__law_draw) (hp : Γ "_law_pair" = some d__law_pair) (hn : Γ "_law_number" = some d__law_number) (hz : Γ "_law_size" = some d__law_size) (hsu : Γ "_law_sum" = some d__law_sum) (h2 : Γ "_law_sheet" = some d__law_sheet) (hs : Sok s)
    (q : ∀ rs s', Sok s' → ShOk rs → Q (.lst true (rs.map encS)) s') : V (callF Γ (k + 3) "_law_sheet" [.strm]) s Q := by
  refine V_call h2 rfl ?_
  simp only [d__law_sheet]
  (((try simp only [E1, R1, N2, V_cons, bw, optI, tru, notB, V_bind, V_pure, V_guard, V_ite, V_some, V_getS, V_setS, getE, asgT, setE, setsE, kilE, wipeE, D.strips, D.strip, isNop, B1, S1, P1, List.map, List.append, List.replicate, List.set_cons_zero, List.set_cons_succ, List.getElem?_cons_zero, List.getElem?_cons_succ, List.cons_append, List.nil_append, Tg.slots, if_true, Bool.false_eq_true, if_false, reduceIte, List.length_cons, List.length_nil]); (try simp only [ne_eq, reduceCtorEq, not_false_eq_true, not_true_eq_false, true_or, or_true, false_or, or_false, true_and, and_true, isPath, G1, P1, Bool.and_true, Bool.true_and, Bool.and_self, Bool.not_true, Bool.not_false])); (try rw [(N1 _).1]); ((try simp only [E1, R1, N2, V_cons, bw, optI, tru, notB, V_bind, V_pure, V_guard, V_ite, V_some, V_getS, V_setS, getE, asgT, setE, setsE, kilE, wipeE, D.strips, D.strip, isNop, B1, S1, P1, List.map, List.append, List.replicate, List.set_cons_zero, List.set_cons_succ, List.getElem?_cons_zero, List.getElem?_cons_succ, List.cons_append, List.nil_append, Tg.slots, if_true, Bool.false_eq_true, if_false, reduceIte, List.length_cons, List.length_nil]); (try simp only [ne_eq, reduceCtorEq, not_false_eq_true, not_true_eq_false, true_or, or_true, false_or, or_false, true_and, and_true, isPath, G1, P1, Bool.and_true, Bool.true_and, Bool.and_self, Bool.not_true, Bool.not_false])))
  (((try simp only [E1, R1, N2, V_cons, bw, optI, tru, notB, V_bind, V_pure, V_guard, V_ite, V_some, V_getS, V_setS, getE, asgT, setE, setsE, kilE, wipeE, D.strips, D.strip, isNop, B1, S1, P1, List.map, List.append, List.replicate, List.set_cons_zero, List.set_cons_succ, List.getElem?_cons_zero, List.getElem?_cons_succ, List.cons_append, List.nil_append, Tg.slots, if_true, Bool.false_eq_true, if_false, reduceIte, List.length_cons, List.length_nil]); (try simp only [ne_eq, reduceCtorEq, not_false_eq_true, not_true_eq_false, true_or, or_true, false_or, or_false, true_and, and_true, isPath, G1, P1, Bool.and_true, Bool.true_and, Bool.and_self, Bool.not_true, Bool.not_false])); (try rw [(N1 _).1]); ((try simp only [E1, R1, N2, V_cons, bw, optI, tru, notB, V_bind, V_pure, V_guard, V_ite, V_some, V_getS, V_setS, getE, asgT, setE, setsE, kilE, wipeE, D.strips, D.strip, isNop, B1, S1, P1, List.map, List.append, List.replicate, List.set_cons_zero, List.set_cons_succ, List.getElem?_cons_zero, List.getElem?_cons_succ, List.cons_append, List.nil_append, Tg.slots, if_true, Bool.false_eq_true, if_false, reduceIte, List.length_cons, List.length_nil]); (try simp only [ne_eq, reduceCtorEq, not_false_eq_true, not_true_eq_false, true_or, or_true, false_or, or_false, true_and, and_true, isPath, G1, P1, Bool.and_true, Bool.true_and, Bool.and_self, Bool.not_true, Bool.not_false])))
  refine V_draw (k := k + 1) hd (by decide) (by decide +kernel) hs fun v s1 k1 v0 v1 => ?_
  have e : ∃ m : Int, 0 < m ∧ m ≤ 8 ∧ ixD (.lst true [.int 4, .int 8]) (.int v) = pure (.int m) := by
    have hu : v = 0 ∨ v = 1 := by omega
    rcases hu with rfl | rfl
    · exact ⟨4, by decide, by decide, rfl⟩
    · exact ⟨8, by decide, by decide, rfl⟩
  obtain ⟨m, m0, m1, e⟩ := e
  ((try simp only [E1, R1, N2, V_cons, bw, optI, tru, notB, V_bind, V_pure, V_guard, V_ite, V_some, V_getS, V_setS, getE, asgT, setE, setsE, kilE, wipeE, D.strips, D.strip, isNop, B1, S1, P1, List.map, List.append, List.replicate, List.set_cons_zero, List.set_cons_succ, List.getElem?_cons_zero, List.getElem?_cons_succ, List.cons_append, List.nil_append, Tg.slots, if_true, Bool.false_eq_true, if_false, reduceIte, List.length_cons, List.length_nil]); (try simp only [ne_eq, reduceCtorEq, not_false_eq_true, not_true_eq_false, true_or, or_true, false_or, or_false, true_and, and_true, isPath, G1, P1, Bool.and_true, Bool.true_and, Bool.and_self, Bool.not_true, Bool.not_false]))
  rw [e]
  ((try simp only [E1, R1, N2, V_cons, bw, optI, tru, notB, V_bind, V_pure, V_guard, V_ite, V_some, V_getS, V_setS, getE, asgT, setE, setsE, kilE, wipeE, D.strips, D.strip, isNop, B1, S1, P1, List.map, List.append, List.replicate, List.set_cons_zero, List.set_cons_succ, List.getElem?_cons_zero, List.getElem?_cons_succ, List.cons_append, List.nil_append, Tg.slots, if_true, Bool.false_eq_true, if_false, reduceIte, List.length_cons, List.length_nil]); (try simp only [ne_eq, reduceCtorEq, not_false_eq_true, not_true_eq_false, true_or, or_true, false_or, or_false, true_and, and_true, isPath, G1, P1, Bool.and_true, Bool.true_and, Bool.and_self, Bool.not_true, Bool.not_false]))
  refine V_draw (k := k + 1) hd m0 (log_small (by omega)) k1 fun w s2 k2 w0 w1 => ?_
  ((try simp only [E1, R1, N2, V_cons, bw, optI, tru, notB, V_bind, V_pure, V_guard, V_ite, V_some, V_getS, V_setS, getE, asgT, setE, setsE, kilE, wipeE, D.strips, D.strip, isNop, B1, S1, P1, List.map, List.append, List.replicate, List.set_cons_zero, List.set_cons_succ, List.getElem?_cons_zero, List.getElem?_cons_succ, List.cons_append, List.nil_append, Tg.slots, if_true, Bool.false_eq_true, if_false, reduceIte, List.length_cons, List.length_nil]); (try simp only [ne_eq, reduceCtorEq, not_false_eq_true, not_true_eq_false, true_or, or_true, false_or, or_false, true_and, and_true, isPath, G1, P1, Bool.and_true, Bool.true_and, Bool.and_self, Bool.not_true, Bool.not_false]))
  have hl : (LIM : Int) = 1000000 := rfl
  refine ⟨⟨by omega, by omega⟩, range_noOwn, ?_⟩
  refine V_for (fun i e t => Sok t ∧ ∃ rs, e = [some .strm, some (.lst true (rs.map encS)), none, none, none] ∧ rs.length = i ∧ ShR rs) _ 0 ⟨k2, [], rfl, rfl, fun k r h => by simp at h⟩ ?_ ?_
  · rintro j x e t hx ⟨kt, rs, rfl, hl2, hr⟩
    obtain ⟨hj, rfl⟩ := range_get hx
    have hj8 : j < 8 := by omega
    ((try simp only [E1, R1, N2, V_cons, bw, optI, tru, notB, V_bind, V_pure, V_guard, V_ite, V_some, V_getS, V_setS, getE, asgT, setE, setsE, kilE, wipeE, D.strips, D.strip, isNop, B1, S1, P1, List.map, List.append, List.replicate, List.set_cons_zero, List.set_cons_succ, List.getElem?_cons_zero, List.getElem?_cons_succ, List.cons_append, List.nil_append, Tg.slots, if_true, Bool.false_eq_true, if_false, reduceIte, List.length_cons, List.length_nil]); (try simp only [ne_eq, reduceCtorEq, not_false_eq_true, not_true_eq_false, true_or, or_true, false_or, or_false, true_and, and_true, isPath, G1, P1, Bool.and_true, Bool.true_and, Bool.and_self, Bool.not_true, Bool.not_false]))
    rw [Bdy_eq]
    (((try simp only [E1, R1, N2, V_cons, bw, optI, tru, notB, V_bind, V_pure, V_guard, V_ite, V_some, V_getS, V_setS, getE, asgT, setE, setsE, kilE, wipeE, D.strips, D.strip, isNop, B1, S1, P1, List.map, List.append, List.replicate, List.set_cons_zero, List.set_cons_succ, List.getElem?_cons_zero, List.getElem?_cons_succ, List.cons_append, List.nil_append, Tg.slots, if_true, Bool.false_eq_true, if_false, reduceIte, List.length_cons, List.length_nil]); (try simp only [ne_eq, reduceCtorEq, not_false_eq_true, not_true_eq_false, true_or, or_true, false_or, or_false, true_and, and_true, isPath, G1, P1, Bool.and_true, Bool.true_and, Bool.and_self, Bool.not_true, Bool.not_false])); (try rw [(N1 _).1]); ((try simp only [E1, R1, N2, V_cons, bw, optI, tru, notB, V_bind, V_pure, V_guard, V_ite, V_some, V_getS, V_setS, getE, asgT, setE, setsE, kilE, wipeE, D.strips, D.strip, isNop, B1, S1, P1, List.map, List.append, List.replicate, List.set_cons_zero, List.set_cons_succ, List.getElem?_cons_zero, List.getElem?_cons_succ, List.cons_append, List.nil_append, Tg.slots, if_true, Bool.false_eq_true, if_false, reduceIte, List.length_cons, List.length_nil]); (try simp only [ne_eq, reduceCtorEq, not_false_eq_true, not_true_eq_false, true_or, or_true, false_or, or_false, true_and, and_true, isPath, G1, P1, Bool.and_true, Bool.true_and, Bool.and_self, Bool.not_true, Bool.not_false])))
    refine V_number (k := k) hd hp hn kt fun a s3 k3 za => ?_
    (((try simp only [E1, R1, N2, V_cons, bw, optI, tru, notB, V_bind, V_pure, V_guard, V_ite, V_some, V_getS, V_setS, getE, asgT, setE, setsE, kilE, wipeE, D.strips, D.strip, isNop, B1, S1, P1, List.map, List.append, List.replicate, List.set_cons_zero, List.set_cons_succ, List.getElem?_cons_zero, List.getElem?_cons_succ, List.cons_append, List.nil_append, Tg.slots, if_true, Bool.false_eq_true, if_false, reduceIte, List.length_cons, List.length_nil]); (try simp only [ne_eq, reduceCtorEq, not_false_eq_true, not_true_eq_false, true_or, or_true, false_or, or_false, true_and, and_true, isPath, G1, P1, Bool.and_true, Bool.true_and, Bool.and_self, Bool.not_true, Bool.not_false])); (try rw [(N1 _).1]); ((try simp only [E1, R1, N2, V_cons, bw, optI, tru, notB, V_bind, V_pure, V_guard, V_ite, V_some, V_getS, V_setS, getE, asgT, setE, setsE, kilE, wipeE, D.strips, D.strip, isNop, B1, S1, P1, List.map, List.append, List.replicate, List.set_cons_zero, List.set_cons_succ, List.getElem?_cons_zero, List.getElem?_cons_succ, List.cons_append, List.nil_append, Tg.slots, if_true, Bool.false_eq_true, if_false, reduceIte, List.length_cons, List.length_nil]); (try simp only [ne_eq, reduceCtorEq, not_false_eq_true, not_true_eq_false, true_or, or_true, false_or, or_false, true_and, and_true, isPath, G1, P1, Bool.and_true, Bool.true_and, Bool.and_self, Bool.not_true, Bool.not_false])))
    refine V_size (k := k + 1) hz ?_
    (((try simp only [E1, R1, N2, V_cons, bw, optI, tru, notB, V_bind, V_pure, V_guard, V_ite, V_some, V_getS, V_setS, getE, asgT, setE, setsE, kilE, wipeE, D.strips, D.strip, isNop, B1, S1, P1, List.map, List.append, List.replicate, List.set_cons_zero, List.set_cons_succ, List.getElem?_cons_zero, List.getElem?_cons_succ, List.cons_append, List.nil_append, Tg.slots, if_true, Bool.false_eq_true, if_false, reduceIte, List.length_cons, List.length_nil]); (try simp only [ne_eq, reduceCtorEq, not_false_eq_true, not_true_eq_false, true_or, or_true, false_or, or_false, true_and, and_true, isPath, G1, P1, Bool.and_true, Bool.true_and, Bool.and_self, Bool.not_true, Bool.not_false])); (try rw [(N1 _).1]); ((try simp only [E1, R1, N2, V_cons, bw, optI, tru, notB, V_bind, V_pure, V_guard, V_ite, V_some, V_getS, V_setS, getE, asgT, setE, setsE, kilE, wipeE, D.strips, D.strip, isNop, B1, S1, P1, List.map, List.append, List.replicate, List.set_cons_zero, List.set_cons_succ, List.getElem?_cons_zero, List.getElem?_cons_succ, List.cons_append, List.nil_append, Tg.slots, if_true, Bool.false_eq_true, if_false, reduceIte, List.length_cons, List.length_nil]); (try simp only [ne_eq, reduceCtorEq, not_false_eq_true, not_true_eq_false, true_or, or_true, false_or, or_false, true_and, and_true, isPath, G1, P1, Bool.and_true, Bool.true_and, Bool.and_self, Bool.not_true, Bool.not_false])))
    refine V_number (k := k) hd hp hn k3 fun b s4 k4 zb => ?_
    (((try simp only [E1, R1, N2, V_cons, bw, optI, tru, notB, V_bind, V_pure, V_guard, V_ite, V_some, V_getS, V_setS, getE, asgT, setE, setsE, kilE, wipeE, D.strips, D.strip, isNop, B1, S1, P1, List.map, List.append, List.replicate, List.set_cons_zero, List.set_cons_succ, List.getElem?_cons_zero, List.getElem?_cons_succ, List.cons_append, List.nil_append, Tg.slots, if_true, Bool.false_eq_true, if_false, reduceIte, List.length_cons, List.length_nil]); (try simp only [ne_eq, reduceCtorEq, not_false_eq_true, not_true_eq_false, true_or, or_true, false_or, or_false, true_and, and_true, isPath, G1, P1, Bool.and_true, Bool.true_and, Bool.and_self, Bool.not_true, Bool.not_false])); (try rw [(N1 _).1]); ((try simp only [E1, R1, N2, V_cons, bw, optI, tru, notB, V_bind, V_pure, V_guard, V_ite, V_some, V_getS, V_setS, getE, asgT, setE, setsE, kilE, wipeE, D.strips, D.strip, isNop, B1, S1, P1, List.map, List.append, List.replicate, List.set_cons_zero, List.set_cons_succ, List.getElem?_cons_zero, List.getElem?_cons_succ, List.cons_append, List.nil_append, Tg.slots, if_true, Bool.false_eq_true, if_false, reduceIte, List.length_cons, List.length_nil]); (try simp only [ne_eq, reduceCtorEq, not_false_eq_true, not_true_eq_false, true_or, or_true, false_or, or_false, true_and, and_true, isPath, G1, P1, Bool.and_true, Bool.true_and, Bool.and_self, Bool.not_true, Bool.not_false])))
    refine V_size (k := k + 1) hz ?_
    (((try simp only [E1, R1, N2, V_cons, bw, optI, tru, notB, V_bind, V_pure, V_guard, V_ite, V_some, V_getS, V_setS, getE, asgT, setE, setsE, kilE, wipeE, D.strips, D.strip, isNop, B1, S1, P1, List.map, List.append, List.replicate, List.set_cons_zero, List.set_cons_succ, List.getElem?_cons_zero, List.getElem?_cons_succ, List.cons_append, List.nil_append, Tg.slots, if_true, Bool.false_eq_true, if_false, reduceIte, List.length_cons, List.length_nil]); (try simp only [ne_eq, reduceCtorEq, not_false_eq_true, not_true_eq_false, true_or, or_true, false_or, or_false, true_and, and_true, isPath, G1, P1, Bool.and_true, Bool.true_and, Bool.and_self, Bool.not_true, Bool.not_false])); (try rw [(N1 _).1]); ((try simp only [E1, R1, N2, V_cons, bw, optI, tru, notB, V_bind, V_pure, V_guard, V_ite, V_some, V_getS, V_setS, getE, asgT, setE, setsE, kilE, wipeE, D.strips, D.strip, isNop, B1, S1, P1, List.map, List.append, List.replicate, List.set_cons_zero, List.set_cons_succ, List.getElem?_cons_zero, List.getElem?_cons_succ, List.cons_append, List.nil_append, Tg.slots, if_true, Bool.false_eq_true, if_false, reduceIte, List.length_cons, List.length_nil]); (try simp only [ne_eq, reduceCtorEq, not_false_eq_true, not_true_eq_false, true_or, or_true, false_or, or_false, true_and, and_true, isPath, G1, P1, Bool.and_true, Bool.true_and, Bool.and_self, Bool.not_true, Bool.not_false])))
    refine V_sum (k := k) hp hsu (za.ra.sm (by decide) (by decide)) (zb.ra.sm (by decide) (by decide)) ?_
    (((try simp only [E1, R1, N2, V_cons, bw, optI, tru, notB, V_bind, V_pure, V_guard, V_ite, V_some, V_getS, V_setS, getE, asgT, setE, setsE, kilE, wipeE, D.strips, D.strip, isNop, B1, S1, P1, List.map, List.append, List.replicate, List.set_cons_zero, List.set_cons_succ, List.getElem?_cons_zero, List.getElem?_cons_succ, List.cons_append, List.nil_append, Tg.slots, if_true, Bool.false_eq_true, if_false, reduceIte, List.length_cons, List.length_nil]); (try simp only [ne_eq, reduceCtorEq, not_false_eq_true, not_true_eq_false, true_or, or_true, false_or, or_false, true_and, and_true, isPath, G1, P1, Bool.and_true, Bool.true_and, Bool.and_self, Bool.not_true, Bool.not_false])); (try rw [(N1 _).1]); ((try simp only [E1, R1, N2, V_cons, bw, optI, tru, notB, V_bind, V_pure, V_guard, V_ite, V_some, V_getS, V_setS, getE, asgT, setE, setsE, kilE, wipeE, D.strips, D.strip, isNop, B1, S1, P1, List.map, List.append, List.replicate, List.set_cons_zero, List.set_cons_succ, List.getElem?_cons_zero, List.getElem?_cons_succ, List.cons_append, List.nil_append, Tg.slots, if_true, Bool.false_eq_true, if_false, reduceIte, List.length_cons, List.length_nil]); (try simp only [ne_eq, reduceCtorEq, not_false_eq_true, not_true_eq_false, true_or, or_true, false_or, or_false, true_and, and_true, isPath, G1, P1, Bool.and_true, Bool.true_and, Bool.and_self, Bool.not_true, Bool.not_false])))
    refine V_draw (k := k + 1) hd (by decide) (by decide +kernel) k4 fun w' s5 k5 _ _ => ?_
    ((try simp only [E1, R1, N2, V_cons, bw, optI, tru, notB, V_bind, V_pure, V_guard, V_ite, V_some, V_getS, V_setS, getE, asgT, setE, setsE, kilE, wipeE, D.strips, D.strip, isNop, B1, S1, P1, List.map, List.append, List.replicate, List.set_cons_zero, List.set_cons_succ, List.getElem?_cons_zero, List.getElem?_cons_succ, List.cons_append, List.nil_append, Tg.slots, if_true, Bool.false_eq_true, if_false, reduceIte, List.length_cons, List.length_nil]); (try simp only [ne_eq, reduceCtorEq, not_false_eq_true, not_true_eq_false, true_or, or_true, false_or, or_false, true_and, and_true, isPath, G1, P1, Bool.and_true, Bool.true_and, Bool.and_self, Bool.not_true, Bool.not_false]))
    generalize hN : Nxt _ (MSs.cons _ _) _ = N
    have fin : ∀ h s6, Sok s6 → Zb 51 40 h → ra a ≤ h → N (.nx [some .strm, some (.lst true (rs.map encS)), some (.int (0 + j)), some (pr (ra a)), some (pr h)]) s6 := by
      intro h s6 k6 zh lh
      rw [← hN]
      (((try simp only [E1, R1, N2, V_cons, bw, optI, tru, notB, V_bind, V_pure, V_guard, V_ite, V_some, V_getS, V_setS, getE, asgT, setE, setsE, kilE, wipeE, D.strips, D.strip, isNop, B1, S1, P1, List.map, List.append, List.replicate, List.set_cons_zero, List.set_cons_succ, List.getElem?_cons_zero, List.getElem?_cons_succ, List.cons_append, List.nil_append, Tg.slots, if_true, Bool.false_eq_true, if_false, reduceIte, List.length_cons, List.length_nil]); (try simp only [ne_eq, reduceCtorEq, not_false_eq_true, not_true_eq_false, true_or, or_true, false_or, or_false, true_and, and_true, isPath, G1, P1, Bool.and_true, Bool.true_and, Bool.and_self, Bool.not_true, Bool.not_false])); (try rw [(N1 _).1]); ((try simp only [E1, R1, N2, V_cons, bw, optI, tru, notB, V_bind, V_pure, V_guard, V_ite, V_some, V_getS, V_setS, getE, asgT, setE, setsE, kilE, wipeE, D.strips, D.strip, isNop, B1, S1, P1, List.map, List.append, List.replicate, List.set_cons_zero, List.set_cons_succ, List.getElem?_cons_zero, List.getElem?_cons_succ, List.cons_append, List.nil_append, Tg.slots, if_true, Bool.false_eq_true, if_false, reduceIte, List.length_cons, List.length_nil]); (try simp only [ne_eq, reduceCtorEq, not_false_eq_true, not_true_eq_false, true_or, or_true, false_or, or_false, true_and, and_true, isPath, G1, P1, Bool.and_true, Bool.true_and, Bool.and_self, Bool.not_true, Bool.not_false])))
      refine V_draw (k := k + 1) hd (by omega) (log_small (by omega)) k6 fun u s7 k7 u0 u1 => ?_
      (((try simp only [E1, R1, N2, V_cons, bw, optI, tru, notB, V_bind, V_pure, V_guard, V_ite, V_some, V_getS, V_setS, getE, asgT, setE, setsE, kilE, wipeE, D.strips, D.strip, isNop, B1, S1, P1, List.map, List.append, List.replicate, List.set_cons_zero, List.set_cons_succ, List.getElem?_cons_zero, List.getElem?_cons_succ, List.cons_append, List.nil_append, Tg.slots, if_true, Bool.false_eq_true, if_false, reduceIte, List.length_cons, List.length_nil]); (try simp only [ne_eq, reduceCtorEq, not_false_eq_true, not_true_eq_false, true_or, or_true, false_or, or_false, true_and, and_true, isPath, G1, P1, Bool.and_true, Bool.true_and, Bool.and_self, Bool.not_true, Bool.not_false])); (try rw [(N1 _).1]); ((try simp only [E1, R1, N2, V_cons, bw, optI, tru, notB, V_bind, V_pure, V_guard, V_ite, V_some, V_getS, V_setS, getE, asgT, setE, setsE, kilE, wipeE, D.strips, D.strip, isNop, B1, S1, P1, List.map, List.append, List.replicate, List.set_cons_zero, List.set_cons_succ, List.getElem?_cons_zero, List.getElem?_cons_succ, List.cons_append, List.nil_append, Tg.slots, if_true, Bool.false_eq_true, if_false, reduceIte, List.length_cons, List.length_nil]); (try simp only [ne_eq, reduceCtorEq, not_false_eq_true, not_true_eq_false, true_or, or_true, false_or, or_false, true_and, and_true, isPath, G1, P1, Bool.and_true, Bool.true_and, Bool.and_self, Bool.not_true, Bool.not_false])))
      refine ⟨by rw [List.length_map]; exact Nat.lt_trans (by omega) (show 10 < LIM by decide), k7, rs ++ [⟨u - 1, ra a, h⟩], ?_, by rw [List.length_append]; simp; omega, hr.snoc ⟨by show -1 ≤ u - 1; omega, by show u - 1 < (rs.length : Int); omega, ra_nn a, lh, za.ra, zh⟩⟩
      rw [List.map_append]
      rfl
    split
    · ((try simp only [E1, R1, N2, V_cons, bw, optI, tru, notB, V_bind, V_pure, V_guard, V_ite, V_some, V_getS, V_setS, getE, asgT, setE, setsE, kilE, wipeE, D.strips, D.strip, isNop, B1, S1, P1, List.map, List.append, List.replicate, List.set_cons_zero, List.set_cons_succ, List.getElem?_cons_zero, List.getElem?_cons_succ, List.cons_append, List.nil_append, Tg.slots, if_true, Bool.false_eq_true, if_false, reduceIte, List.length_cons, List.length_nil]); (try simp only [ne_eq, reduceCtorEq, not_false_eq_true, not_true_eq_false, true_or, or_true, false_or, or_false, true_and, and_true, isPath, G1, P1, Bool.and_true, Bool.true_and, Bool.and_self, Bool.not_true, Bool.not_false]))
      exact fin _ _ k5 (za.ra.mono (by decide) (by decide)) Rat.le_refl
    · ((try simp only [E1, R1, N2, V_cons, bw, optI, tru, notB, V_bind, V_pure, V_guard, V_ite, V_some, V_getS, V_setS, getE, asgT, setE, setsE, kilE, wipeE, D.strips, D.strip, isNop, B1, S1, P1, List.map, List.append, List.replicate, List.set_cons_zero, List.set_cons_succ, List.getElem?_cons_zero, List.getElem?_cons_succ, List.cons_append, List.nil_append, Tg.slots, if_true, Bool.false_eq_true, if_false, reduceIte, List.length_cons, List.length_nil]); (try simp only [ne_eq, reduceCtorEq, not_false_eq_true, not_true_eq_false, true_or, or_true, false_or, or_false, true_and, and_true, isPath, G1, P1, Bool.and_true, Bool.true_and, Bool.and_self, Bool.not_true, Bool.not_false]))
      have := ra_nn b
      exact fin _ _ k5 ((za.ra.add zb.ra).mono (by decide) (by decide)) (by grind)
  · rintro e t ⟨kt, rs, rfl, hl2, hr⟩
    have hlen : (rangeD 0 (1 + w).toNat).length = (1 + w).toNat := by unfold rangeD; simp
    (((try simp only [E1, R1, N2, V_cons, bw, optI, tru, notB, V_bind, V_pure, V_guard, V_ite, V_some, V_getS, V_setS, getE, asgT, setE, setsE, kilE, wipeE, D.strips, D.strip, isNop, B1, S1, P1, List.map, List.append, List.replicate, List.set_cons_zero, List.set_cons_succ, List.getElem?_cons_zero, List.getElem?_cons_succ, List.cons_append, List.nil_append, Tg.slots, if_true, Bool.false_eq_true, if_false, reduceIte, List.length_cons, List.length_nil]); (try simp only [ne_eq, reduceCtorEq, not_false_eq_true, not_true_eq_false, true_or, or_true, false_or, or_false, true_and, and_true, isPath, G1, P1, Bool.and_true, Bool.true_and, Bool.and_self, Bool.not_true, Bool.not_false])); (try rw [(N1 _).1]); ((try simp only [E1, R1, N2, V_cons, bw, optI, tru, notB, V_bind, V_pure, V_guard, V_ite, V_some, V_getS, V_setS, getE, asgT, setE, setsE, kilE, wipeE, D.strips, D.strip, isNop, B1, S1, P1, List.map, List.append, List.replicate, List.set_cons_zero, List.set_cons_succ, List.getElem?_cons_zero, List.getElem?_cons_succ, List.cons_append, List.nil_append, Tg.slots, if_true, Bool.false_eq_true, if_false, reduceIte, List.length_cons, List.length_nil]); (try simp only [ne_eq, reduceCtorEq, not_false_eq_true, not_true_eq_false, true_or, or_true, false_or, or_false, true_and, and_true, isPath, G1, P1, Bool.and_true, Bool.true_and, Bool.and_self, Bool.not_true, Bool.not_false])))
    exact q rs t kt ⟨by omega, by omega, hr⟩
theorem V_cues (hra : Γ "_law_ratio" = some d__law_ratio) (h2 : Γ "_law_cues" = some d__law_cues) {rs : List SRow} (ok : ShOk rs) (q : Q (.tup (rs.map encC)) s) : V (callF Γ (k + 2) "_law_cues" [.lst false (rs.map encS)]) s Q := by
  refine V_call h2 rfl ?_
  simp only [d__law_cues]
  ((try simp only [E1, R1, N2, V_cons, bw, optI, tru, notB, V_bind, V_pure, V_guard, V_ite, V_some, V_getS, V_setS, getE, asgT, setE, setsE, kilE, wipeE, D.strips, D.strip, isNop, B1, S1, P1, List.map, List.append, List.replicate, List.set_cons_zero, List.set_cons_succ, List.getElem?_cons_zero, List.getElem?_cons_succ, List.cons_append, List.nil_append, Tg.slots, if_true, Bool.false_eq_true, if_false, reduceIte, List.length_cons, List.length_nil]); (try simp only [ne_eq, reduceCtorEq, not_false_eq_true, not_true_eq_false, true_or, or_true, false_or, or_false, true_and, and_true, isPath, G1, P1, Bool.and_true, Bool.true_and, Bool.and_self, Bool.not_true, Bool.not_false]))
  refine ⟨noOwns_encS rs, ⟨by rw [List.length_map]; exact Nat.le_trans ok.len (by decide), noOwns_encS rs⟩, ?_⟩
  refine V_map (g := fun x => match x with | .tup [p, .tup [.int a, .int b], .tup [.int c, .int d]] => .tup [p, .rat (Rat.divInt a b), .rat (Rat.divInt c d)] | x => x) _ (fun x hx R hR => ?_) ?_
  · obtain ⟨r, hr, rfl⟩ := List.mem_map.mp hx
    obtain ⟨i, hi⟩ := List.mem_iff_getElem?.mp hr
    have o := ok.row i r hi
    rw [Elm_eq]
    unfold encS
    ((try simp only [E1, R1, N1, V_cons, bw, optI, tru, notB, V_bind, V_pure, V_guard, V_ite, V_some, V_getS, V_setS, getE, asgT, setE, setsE, kilE, wipeE, D.strips, D.strip, isNop, B1, S1, P1, List.map, List.append, List.replicate, List.set_cons_zero, List.set_cons_succ, List.getElem?_cons_zero, List.getElem?_cons_succ, List.cons_append, List.nil_append, Tg.slots, if_true, Bool.false_eq_true, if_false, reduceIte, List.length_cons, List.length_nil]); (try simp only [ne_eq, reduceCtorEq, not_false_eq_true, not_true_eq_false, true_or, or_true, false_or, or_false, true_and, and_true, isPath, G1, P1, Bool.and_true, Bool.true_and, Bool.and_self, Bool.not_true, Bool.not_false]))
    refine V_ratio hra (o.zl.sm (by decide) (by decide)) ?_
    ((try simp only [E1, R1, N1, V_cons, bw, optI, tru, notB, V_bind, V_pure, V_guard, V_ite, V_some, V_getS, V_setS, getE, asgT, setE, setsE, kilE, wipeE, D.strips, D.strip, isNop, B1, S1, P1, List.map, List.append, List.replicate, List.set_cons_zero, List.set_cons_succ, List.getElem?_cons_zero, List.getElem?_cons_succ, List.cons_append, List.nil_append, Tg.slots, if_true, Bool.false_eq_true, if_false, reduceIte, List.length_cons, List.length_nil]); (try simp only [ne_eq, reduceCtorEq, not_false_eq_true, not_true_eq_false, true_or, or_true, false_or, or_false, true_and, and_true, isPath, G1, P1, Bool.and_true, Bool.true_and, Bool.and_self, Bool.not_true, Bool.not_false]))
    refine V_ratio hra (o.zh.sm (by decide) (by decide)) ?_
    ((try simp only [E1, R1, N1, V_cons, bw, optI, tru, notB, V_bind, V_pure, V_guard, V_ite, V_some, V_getS, V_setS, getE, asgT, setE, setsE, kilE, wipeE, D.strips, D.strip, isNop, B1, S1, P1, List.map, List.append, List.replicate, List.set_cons_zero, List.set_cons_succ, List.getElem?_cons_zero, List.getElem?_cons_succ, List.cons_append, List.nil_append, Tg.slots, if_true, Bool.false_eq_true, if_false, reduceIte, List.length_cons, List.length_nil]); (try simp only [ne_eq, reduceCtorEq, not_false_eq_true, not_true_eq_false, true_or, or_true, false_or, or_false, true_and, and_true, isPath, G1, P1, Bool.and_true, Bool.true_and, Bool.and_self, Bool.not_true, Bool.not_false]))
    have : R (some (.tup [.int r.p, .rat (Rat.divInt r.lo.num r.lo.den), .rat (Rat.divInt r.hi.num r.hi.den)])) s := hR
    rw [Rat.num_divInt_den, Rat.num_divInt_den] at this
    exact this
  · rw [List.map_map]
    have e : (rs.map ((fun x => match x with | .tup [p, .tup [.int a, .int b], .tup [.int c, .int d]] => .tup [p, .rat (Rat.divInt a b), .rat (Rat.divInt c d)] | x => x) ∘ encS)) = rs.map encC := by
      refine List.map_congr_left fun r _ => ?_
      show D.tup [.int r.p, .rat (Rat.divInt r.lo.num r.lo.den), .rat (Rat.divInt r.hi.num r.hi.den)] = _
      rw [Rat.num_divInt_den, Rat.num_divInt_den]
      rfl
    rw [e]
    ((try simp only [E1, R1, N2, V_cons, bw, optI, tru, notB, V_bind, V_pure, V_guard, V_ite, V_some, V_getS, V_setS, getE, asgT, setE, setsE, kilE, wipeE, D.strips, D.strip, isNop, B1, S1, P1, List.map, List.append, List.replicate, List.set_cons_zero, List.set_cons_succ, List.getElem?_cons_zero, List.getElem?_cons_succ, List.cons_append, List.nil_append, Tg.slots, if_true, Bool.false_eq_true, if_false, reduceIte, List.length_cons, List.length_nil]); (try simp only [ne_eq, reduceCtorEq, not_false_eq_true, not_true_eq_false, true_or, or_true, false_or, or_false, true_and, and_true, isPath, G1, P1, Bool.and_true, Bool.true_and, Bool.and_self, Bool.not_true, Bool.not_false]))
    first | exact ⟨noOwns_encC rs, q⟩ | exact q
/-! ### timings -/
def wtR (ts : List Rat) (i : Nat) (r : SRow) : Rat := if 0 ≤ r.p then ts.getD i 0 - ts.getD r.p.toNat 0 else ts.getD i 0
def timG (ts : List Rat) : List SRow → Nat → Bool
  | [], _ => true
  | r :: rs, i => !(decide (wtR ts i r < r.lo) || decide (r.hi < wtR ts i r)) && timG ts rs (i + 1)
def timB (rs : List SRow) (ts : List Rat) : Bool := decide (ts.length = rs.length) && timG ts rs 0
theorem V_is_timing (hle : Γ "is_less" = some d_is_less) (h2 : Γ "is_timing" = some d_is_timing) {rs : List SRow} {ts : List Rat} (ok : ShOk rs) (zt : ∀ t ∈ ts, Zb 2000 2000 t) (q : Q (.bl (timB rs ts)) s) : V (callF Γ (k + 2) "is_timing" [.tup (rs.map encC), .lst false (ts.map .rat)]) s Q := by
  refine V_call h2 rfl ?_
  simp only [d_is_timing]
  (((try simp only [E1, R1, N2, V_cons, bw, optI, tru, notB, V_bind, V_pure, V_guard, V_ite, V_some, V_getS, V_setS, getE, asgT, setE, setsE, kilE, wipeE, D.strips, D.strip, isNop, B1, S1, P1, List.map, List.append, List.replicate, List.set_cons_zero, List.set_cons_succ, List.getElem?_cons_zero, List.getElem?_cons_succ, List.cons_append, List.nil_append, Tg.slots, if_true, Bool.false_eq_true, if_false, reduceIte, List.length_cons, List.length_nil]); (try simp only [ne_eq, reduceCtorEq, not_false_eq_true, not_true_eq_false, true_or, or_true, false_or, or_false, true_and, and_true, isPath, G1, P1, Bool.and_true, Bool.true_and, Bool.and_self, Bool.not_true, Bool.not_false])); (try rw [(N1 _).1]); ((try simp only [E1, R1, N2, V_cons, bw, optI, tru, notB, V_bind, V_pure, V_guard, V_ite, V_some, V_getS, V_setS, getE, asgT, setE, setsE, kilE, wipeE, D.strips, D.strip, isNop, B1, S1, P1, List.map, List.append, List.replicate, List.set_cons_zero, List.set_cons_succ, List.getElem?_cons_zero, List.getElem?_cons_succ, List.cons_append, List.nil_append, Tg.slots, if_true, Bool.false_eq_true, if_false, reduceIte, List.length_cons, List.length_nil]); (try simp only [ne_eq, reduceCtorEq, not_false_eq_true, not_true_eq_false, true_or, or_true, false_or, or_false, true_and, and_true, isPath, G1, P1, Bool.and_true, Bool.true_and, Bool.and_self, Bool.not_true, Bool.not_false])))
  refine ⟨noOwns_rats ts, noOwns_encC rs, ?_⟩
  rw [List.length_map, List.length_map]
  unfold timB at q
  by_cases hl : ts.length = rs.length
  · rw [hl, if_neg (by simp)]
    rw [decide_eq_true hl, Bool.true_and] at q
    (((try simp only [E1, R1, N2, V_cons, bw, optI, tru, notB, V_bind, V_pure, V_guard, V_ite, V_some, V_getS, V_setS, getE, asgT, setE, setsE, kilE, wipeE, D.strips, D.strip, isNop, B1, S1, P1, List.map, List.append, List.replicate, List.set_cons_zero, List.set_cons_succ, List.getElem?_cons_zero, List.getElem?_cons_succ, List.cons_append, List.nil_append, Tg.slots, if_true, Bool.false_eq_true, if_false, reduceIte, List.length_cons, List.length_nil]); (try simp only [ne_eq, reduceCtorEq, not_false_eq_true, not_true_eq_false, true_or, or_true, false_or, or_false, true_and, and_true, isPath, G1, P1, Bool.and_true, Bool.true_and, Bool.and_self, Bool.not_true, Bool.not_false])); (try rw [(N1 _).1]); ((try simp only [E1, R1, N2, V_cons, bw, optI, tru, notB, V_bind, V_pure, V_guard, V_ite, V_some, V_getS, V_setS, getE, asgT, setE, setsE, kilE, wipeE, D.strips, D.strip, isNop, B1, S1, P1, List.map, List.append, List.replicate, List.set_cons_zero, List.set_cons_succ, List.getElem?_cons_zero, List.getElem?_cons_succ, List.cons_append, List.nil_append, Tg.slots, if_true, Bool.false_eq_true, if_false, reduceIte, List.length_cons, List.length_nil]); (try simp only [ne_eq, reduceCtorEq, not_false_eq_true, not_true_eq_false, true_or, or_true, false_or, or_false, true_and, and_true, isPath, G1, P1, Bool.and_true, Bool.true_and, Bool.and_self, Bool.not_true, Bool.not_false])))
    refine ⟨noOwns_encC rs, by rw [enum_noOwns]; exact noOwns_encC rs, ?_⟩
    generalize hB : Bdy (callF Γ (k + 1)) _ = B
    generalize hN : Nxt (callF Γ (k + 1)) _ _ = N
    have key : ∀ (xs : List SRow) (i : Nat) (N : Fl → Strm → Prop), (∀ j r, xs[j]? = some r → SrOk (i + j) r) → i + xs.length ≤ ts.length →
        (if timG ts xs i then N (.nx [some (D.tup (rs.map encC)), some (D.lst false (ts.map .rat)), none, none, none, none, none, none]) s else N (.ret (.bl false)) s) →
        V (forL B (.tup [2, 3]) [2, 3, 4, 5, 6, 7] (enumD i (xs.map encC)) [some (D.tup (rs.map encC)), some (D.lst false (ts.map .rat)), none, none, none, none, none, none]) s N := by
      intro xs
      induction xs with
      | nil =>
        intro i N _ _ h
        exact V_pure.mpr h
      | cons r xs ih =>
        intro i N hr hi h
        have o := hr 0 r rfl
        rw [List.length_cons] at hi
        have hii : i < ts.length := by omega
        have hrec : (if timG ts xs (i + 1) then N (.nx [some (D.tup (rs.map encC)), some (D.lst false (ts.map .rat)), none, none, none, none, none, none]) s else N (.ret (.bl false)) s) → V (forL B (.tup [2, 3]) [2, 3, 4, 5, 6, 7] (enumD (i + 1) (xs.map encC)) [some (D.tup (rs.map encC)), some (D.lst false (ts.map .rat)), none, none, none, none, none, none]) s N :=
          ih (i + 1) N (fun j r h => by have := hr (j + 1) r h; rwa [show i + (j + 1) = i + 1 + j by omega] at this) (by omega)
        show V (forL B _ _ (D.tup [.int (i : Nat), encC r] :: enumD (i + 1) (xs.map encC)) _) s N
        rw [forL]
        ((try simp only [E1, R1, N2, V_cons, bw, optI, tru, notB, V_bind, V_pure, V_guard, V_ite, V_some, V_getS, V_setS, getE, asgT, setE, setsE, kilE, wipeE, D.strips, D.strip, isNop, B1, S1, P1, List.map, List.append, List.replicate, List.set_cons_zero, List.set_cons_succ, List.getElem?_cons_zero, List.getElem?_cons_succ, List.cons_append, List.nil_append, Tg.slots, if_true, Bool.false_eq_true, if_false, reduceIte, List.length_cons, List.length_nil]); (try simp only [ne_eq, reduceCtorEq, not_false_eq_true, not_true_eq_false, true_or, or_true, false_or, or_false, true_and, and_true, isPath, G1, P1, Bool.and_true, Bool.true_and, Bool.and_self, Bool.not_true, Bool.not_false]))
        rw [← congrFun hB, Bdy_eq, show encC r = .tup [.int r.p, .rat r.lo, .rat r.hi] from rfl]
        (((try simp only [E1, R1, N2, V_cons, bw, optI, tru, notB, V_bind, V_pure, V_guard, V_ite, V_some, V_getS, V_setS, getE, asgT, setE, setsE, kilE, wipeE, D.strips, D.strip, isNop, B1, S1, P1, List.map, List.append, List.replicate, List.set_cons_zero, List.set_cons_succ, List.getElem?_cons_zero, List.getElem?_cons_succ, List.cons_append, List.nil_append, Tg.slots, if_true, Bool.false_eq_true, if_false, reduceIte, List.length_cons, List.length_nil]); (try simp only [ne_eq, reduceCtorEq, not_false_eq_true, not_true_eq_false, true_or, or_true, false_or, or_false, true_and, and_true, isPath, G1, P1, Bool.and_true, Bool.true_and, Bool.and_self, Bool.not_true, Bool.not_false])); (try rw [(N1 _).1]); ((try simp only [E1, R1, N2, V_cons, bw, optI, tru, notB, V_bind, V_pure, V_guard, V_ite, V_some, V_getS, V_setS, getE, asgT, setE, setsE, kilE, wipeE, D.strips, D.strip, isNop, B1, S1, P1, List.map, List.append, List.replicate, List.set_cons_zero, List.set_cons_succ, List.getElem?_cons_zero, List.getElem?_cons_succ, List.cons_append, List.nil_append, Tg.slots, if_true, Bool.false_eq_true, if_false, reduceIte, List.length_cons, List.length_nil]); (try simp only [ne_eq, reduceCtorEq, not_false_eq_true, not_true_eq_false, true_or, or_true, false_or, or_false, true_and, and_true, isPath, G1, P1, Bool.and_true, Bool.true_and, Bool.and_self, Bool.not_true, Bool.not_false])))
        have gi : ∀ j : Nat, j < ts.length → (ts.map D.rat)[j]? = some (.rat (ts.getD j 0)) := fun j hj => by
          rw [List.getElem?_map, List.getElem?_eq_getElem hj, List.getD_eq_getElem?_getD, List.getElem?_eq_getElem hj]
          rfl
        have zg : ∀ j : Nat, j < ts.length → Zb 2000 2000 (ts.getD j 0) := fun j hj => by
          rw [List.getD_eq_getElem?_getD, List.getElem?_eq_getElem hj]
          exact zt _ (List.getElem_mem hj)
        (((try simp only [E1, R1, N2, V_cons, bw, optI, tru, notB, V_bind, V_pure, V_guard, V_ite, V_some, V_getS, V_setS, getE, asgT, setE, setsE, kilE, wipeE, D.strips, D.strip, isNop, B1, S1, P1, List.map, List.append, List.replicate, List.set_cons_zero, List.set_cons_succ, List.getElem?_cons_zero, List.getElem?_cons_succ, List.cons_append, List.nil_append, Tg.slots, if_true, Bool.false_eq_true, if_false, reduceIte, List.length_cons, List.length_nil]); (try simp only [ne_eq, reduceCtorEq, not_false_eq_true, not_true_eq_false, true_or, or_true, false_or, or_false, true_and, and_true, isPath, G1, P1, Bool.and_true, Bool.true_and, Bool.and_self, Bool.not_true, Bool.not_false])); (try rw [(N1 _).1]); ((try simp only [E1, R1, N2, V_cons, bw, optI, tru, notB, V_bind, V_pure, V_guard, V_ite, V_some, V_getS, V_setS, getE, asgT, setE, setsE, kilE, wipeE, D.strips, D.strip, isNop, B1, S1, P1, List.map, List.append, List.replicate, List.set_cons_zero, List.set_cons_succ, List.getElem?_cons_zero, List.getElem?_cons_succ, List.cons_append, List.nil_append, Tg.slots, if_true, Bool.false_eq_true, if_false, reduceIte, List.length_cons, List.length_nil]); (try simp only [ne_eq, reduceCtorEq, not_false_eq_true, not_true_eq_false, true_or, or_true, false_or, or_false, true_and, and_true, isPath, G1, P1, Bool.and_true, Bool.true_and, Bool.and_self, Bool.not_true, Bool.not_false])))
        rw [ix_lst (gi i hii)]
        (((try simp only [E1, R1, N2, V_cons, bw, optI, tru, notB, V_bind, V_pure, V_guard, V_ite, V_some, V_getS, V_setS, getE, asgT, setE, setsE, kilE, wipeE, D.strips, D.strip, isNop, B1, S1, P1, List.map, List.append, List.replicate, List.set_cons_zero, List.set_cons_succ, List.getElem?_cons_zero, List.getElem?_cons_succ, List.cons_append, List.nil_append, Tg.slots, if_true, Bool.false_eq_true, if_false, reduceIte, List.length_cons, List.length_nil]); (try simp only [ne_eq, reduceCtorEq, not_false_eq_true, not_true_eq_false, true_or, or_true, false_or, or_false, true_and, and_true, isPath, G1, P1, Bool.and_true, Bool.true_and, Bool.and_self, Bool.not_true, Bool.not_false])); (try rw [(N1 _).1]); ((try simp only [E1, R1, N2, V_cons, bw, optI, tru, notB, V_bind, V_pure, V_guard, V_ite, V_some, V_getS, V_setS, getE, asgT, setE, setsE, kilE, wipeE, D.strips, D.strip, isNop, B1, S1, P1, List.map, List.append, List.replicate, List.set_cons_zero, List.set_cons_succ, List.getElem?_cons_zero, List.getElem?_cons_succ, List.cons_append, List.nil_append, Tg.slots, if_true, Bool.false_eq_true, if_false, reduceIte, List.length_cons, List.length_nil]); (try simp only [ne_eq, reduceCtorEq, not_false_eq_true, not_true_eq_false, true_or, or_true, false_or, or_false, true_and, and_true, isPath, G1, P1, Bool.and_true, Bool.true_and, Bool.and_self, Bool.not_true, Bool.not_false])))
        -- the wait is known: what is asked of it
        generalize hM : Nxt (callF Γ (k + 1)) (MSs.cons _ _) _ = M
        have fin : Sm (wtR ts i r) → M (.nx [some (D.tup (rs.map encC)), some (D.lst false (ts.map .rat)), some (.int (i : Nat)), some (.tup [.int r.p, .rat r.lo, .rat r.hi]), some (.int r.p), some (.rat r.lo), some (.rat r.hi), some (.rat (wtR ts i r))]) s := by
          intro zw
          rw [← hM]
          have h : (if (!(decide (wtR ts i r < r.lo) || decide (r.hi < wtR ts i r)) && timG ts xs (i + 1)) = true then N (.nx [some (D.tup (rs.map encC)), some (D.lst false (ts.map .rat)), none, none, none, none, none, none]) s else N (.ret (.bl false)) s) := h
          (((try simp only [E1, R1, N2, V_cons, bw, optI, tru, notB, V_bind, V_pure, V_guard, V_ite, V_some, V_getS, V_setS, getE, asgT, setE, setsE, kilE, wipeE, D.strips, D.strip, isNop, B1, S1, P1, List.map, List.append, List.replicate, List.set_cons_zero, List.set_cons_succ, List.getElem?_cons_zero, List.getElem?_cons_succ, List.cons_append, List.nil_append, Tg.slots, if_true, Bool.false_eq_true, if_false, reduceIte, List.length_cons, List.length_nil]); (try simp only [ne_eq, reduceCtorEq, not_false_eq_true, not_true_eq_false, true_or, or_true, false_or, or_false, true_and, and_true, isPath, G1, P1, Bool.and_true, Bool.true_and, Bool.and_self, Bool.not_true, Bool.not_false])); (try rw [(N1 _).1]); ((try simp only [E1, R1, N2, V_cons, bw, optI, tru, notB, V_bind, V_pure, V_guard, V_ite, V_some, V_getS, V_setS, getE, asgT, setE, setsE, kilE, wipeE, D.strips, D.strip, isNop, B1, S1, P1, List.map, List.append, List.replicate, List.set_cons_zero, List.set_cons_succ, List.getElem?_cons_zero, List.getElem?_cons_succ, List.cons_append, List.nil_append, Tg.slots, if_true, Bool.false_eq_true, if_false, reduceIte, List.length_cons, List.length_nil]); (try simp only [ne_eq, reduceCtorEq, not_false_eq_true, not_true_eq_false, true_or, or_true, false_or, or_false, true_and, and_true, isPath, G1, P1, Bool.and_true, Bool.true_and, Bool.and_self, Bool.not_true, Bool.not_false])))
          refine V_is_less (k := k) hle zw (o.zl.sm (by decide) (by decide)) ?_
          ((try simp only [E1, R1, N2, V_cons, bw, optI, tru, notB, V_bind, V_pure, V_guard, V_ite, V_some, V_getS, V_setS, getE, asgT, setE, setsE, kilE, wipeE, D.strips, D.strip, isNop, B1, S1, P1, List.map, List.append, List.replicate, List.set_cons_zero, List.set_cons_succ, List.getElem?_cons_zero, List.getElem?_cons_succ, List.cons_append, List.nil_append, Tg.slots, if_true, Bool.false_eq_true, if_false, reduceIte, List.length_cons, List.length_nil]); (try simp only [ne_eq, reduceCtorEq, not_false_eq_true, not_true_eq_false, true_or, or_true, false_or, or_false, true_and, and_true, isPath, G1, P1, Bool.and_true, Bool.true_and, Bool.and_self, Bool.not_true, Bool.not_false]))
          by_cases c1 : wtR ts i r < r.lo
          · rw [if_pos (decide_eq_true c1)]
            rw [decide_eq_true c1] at h
            ((try simp only [E1, R1, N2, V_cons, bw, optI, tru, notB, V_bind, V_pure, V_guard, V_ite, V_some, V_getS, V_setS, getE, asgT, setE, setsE, kilE, wipeE, D.strips, D.strip, isNop, B1, S1, P1, List.map, List.append, List.replicate, List.set_cons_zero, List.set_cons_succ, List.getElem?_cons_zero, List.getElem?_cons_succ, List.cons_append, List.nil_append, Tg.slots, if_true, Bool.false_eq_true, if_false, reduceIte, List.length_cons, List.length_nil]); (try simp only [ne_eq, reduceCtorEq, not_false_eq_true, not_true_eq_false, true_or, or_true, false_or, or_false, true_and, and_true, isPath, G1, P1, Bool.and_true, Bool.true_and, Bool.and_self, Bool.not_true, Bool.not_false]))
            exact h
          · rw [if_neg (by simpa using c1)]
            refine V_is_less (k := k) hle (o.zh.sm (by decide) (by decide)) zw ?_
            ((try simp only [E1, R1, N2, V_cons, bw, optI, tru, notB, V_bind, V_pure, V_guard, V_ite, V_some, V_getS, V_setS, getE, asgT, setE, setsE, kilE, wipeE, D.strips, D.strip, isNop, B1, S1, P1, List.map, List.append, List.replicate, List.set_cons_zero, List.set_cons_succ, List.getElem?_cons_zero, List.getElem?_cons_succ, List.cons_append, List.nil_append, Tg.slots, if_true, Bool.false_eq_true, if_false, reduceIte, List.length_cons, List.length_nil]); (try simp only [ne_eq, reduceCtorEq, not_false_eq_true, not_true_eq_false, true_or, or_true, false_or, or_false, true_and, and_true, isPath, G1, P1, Bool.and_true, Bool.true_and, Bool.and_self, Bool.not_true, Bool.not_false]))
            by_cases c2 : r.hi < wtR ts i r
            · rw [if_pos (decide_eq_true c2)]
              rw [decide_eq_true c2, Bool.or_true] at h
              ((try simp only [E1, R1, N2, V_cons, bw, optI, tru, notB, V_bind, V_pure, V_guard, V_ite, V_some, V_getS, V_setS, getE, asgT, setE, setsE, kilE, wipeE, D.strips, D.strip, isNop, B1, S1, P1, List.map, List.append, List.replicate, List.set_cons_zero, List.set_cons_succ, List.getElem?_cons_zero, List.getElem?_cons_succ, List.cons_append, List.nil_append, Tg.slots, if_true, Bool.false_eq_true, if_false, reduceIte, List.length_cons, List.length_nil]); (try simp only [ne_eq, reduceCtorEq, not_false_eq_true, not_true_eq_false, true_or, or_true, false_or, or_false, true_and, and_true, isPath, G1, P1, Bool.and_true, Bool.true_and, Bool.and_self, Bool.not_true, Bool.not_false]))
              exact h
            · rw [if_neg (by simpa using c2)]
              rw [decide_eq_false c1, decide_eq_false c2] at h
              ((try simp only [E1, R1, N2, V_cons, bw, optI, tru, notB, V_bind, V_pure, V_guard, V_ite, V_some, V_getS, V_setS, getE, asgT, setE, setsE, kilE, wipeE, D.strips, D.strip, isNop, B1, S1, P1, List.map, List.append, List.replicate, List.set_cons_zero, List.set_cons_succ, List.getElem?_cons_zero, List.getElem?_cons_succ, List.cons_append, List.nil_append, Tg.slots, if_true, Bool.false_eq_true, if_false, reduceIte, List.length_cons, List.length_nil]); (try simp only [ne_eq, reduceCtorEq, not_false_eq_true, not_true_eq_false, true_or, or_true, false_or, or_false, true_and, and_true, isPath, G1, P1, Bool.and_true, Bool.true_and, Bool.and_self, Bool.not_true, Bool.not_false]))
              exact hrec h
        have zi := zg i hii
        by_cases c : 0 ≤ r.p
        · rw [if_pos (decide_eq_true c)]
          have p1 := o.p1
          obtain ⟨j, hj⟩ := Int.eq_ofNat_of_zero_le c
          have hjl : j < ts.length := by omega
          have zj := zg j hjl
          rw [hj, ix_lst (gi j hjl), ← hj]
          ((try simp only [E1, R1, N2, V_cons, bw, optI, tru, notB, V_bind, V_pure, V_guard, V_ite, V_some, V_getS, V_setS, getE, asgT, setE, setsE, kilE, wipeE, D.strips, D.strip, isNop, B1, S1, P1, List.map, List.append, List.replicate, List.set_cons_zero, List.set_cons_succ, List.getElem?_cons_zero, List.getElem?_cons_succ, List.cons_append, List.nil_append, Tg.slots, if_true, Bool.false_eq_true, if_false, reduceIte, List.length_cons, List.length_nil]); (try simp only [ne_eq, reduceCtorEq, not_false_eq_true, not_true_eq_false, true_or, or_true, false_or, or_false, true_and, and_true, isPath, G1, P1, Bool.and_true, Bool.true_and, Bool.and_self, Bool.not_true, Bool.not_false]))
          have e : wtR ts i r = ts.getD i 0 - ts.getD j 0 := by
            unfold wtR
            rw [if_pos c, hj]
            rfl
          rw [e] at fin
          exact ⟨⟨zi.sm (by decide) (by decide), zj.sm (by decide) (by decide)⟩, fin ((Zb.sub zi zj).sm (by decide) (by decide))⟩
        · rw [if_neg (by simpa using c)]
          have e : wtR ts i r = ts.getD i 0 := if_neg c
          rw [e] at fin
          exact fin (zi.sm (by decide) (by decide))
    subst hN
    refine key rs 0 _ (fun j r h => by rw [Nat.zero_add]; exact ok.row j r h) (by omega) ?_
    cases hb : timG ts rs 0 with
    | true =>
      rw [hb] at q
      rw [if_pos rfl]
      (((try simp only [E1, R1, N2, V_cons, bw, optI, tru, notB, V_bind, V_pure, V_guard, V_ite, V_some, V_getS, V_setS, getE, asgT, setE, setsE, kilE, wipeE, D.strips, D.strip, isNop, B1, S1, P1, List.map, List.append, List.replicate, List.set_cons_zero, List.set_cons_succ, List.getElem?_cons_zero, List.getElem?_cons_succ, List.cons_append, List.nil_append, Tg.slots, if_true, Bool.false_eq_true, if_false, reduceIte, List.length_cons, List.length_nil]); (try simp only [ne_eq, reduceCtorEq, not_false_eq_true, not_true_eq_false, true_or, or_true, false_or, or_false, true_and, and_true, isPath, G1, P1, Bool.and_true, Bool.true_and, Bool.and_self, Bool.not_true, Bool.not_false])); (try rw [(N1 _).1]); ((try simp only [E1, R1, N2, V_cons, bw, optI, tru, notB, V_bind, V_pure, V_guard, V_ite, V_some, V_getS, V_setS, getE, asgT, setE, setsE, kilE, wipeE, D.strips, D.strip, isNop, B1, S1, P1, List.map, List.append, List.replicate, List.set_cons_zero, List.set_cons_succ, List.getElem?_cons_zero, List.getElem?_cons_succ, List.cons_append, List.nil_append, Tg.slots, if_true, Bool.false_eq_true, if_false, reduceIte, List.length_cons, List.length_nil]); (try simp only [ne_eq, reduceCtorEq, not_false_eq_true, not_true_eq_false, true_or, or_true, false_or, or_false, true_and, and_true, isPath, G1, P1, Bool.and_true, Bool.true_and, Bool.and_self, Bool.not_true, Bool.not_false])))
      exact q
    | false =>
      rw [hb] at q
      rw [if_neg (by decide)]
      (((try simp only [E1, R1, N2, V_cons, bw, optI, tru, notB, V_bind, V_pure, V_guard, V_ite, V_some, V_getS, V_setS, getE, asgT, setE, setsE, kilE, wipeE, D.strips, D.strip, isNop, B1, S1, P1, List.map, List.append, List.replicate, List.set_cons_zero, List.set_cons_succ, List.getElem?_cons_zero, List.getElem?_cons_succ, List.cons_append, List.nil_append, Tg.slots, if_true, Bool.false_eq_true, if_false, reduceIte, List.length_cons, List.length_nil]); (try simp only [ne_eq, reduceCtorEq, not_false_eq_true, not_true_eq_false, true_or, or_true, false_or, or_false, true_and, and_true, isPath, G1, P1, Bool.and_true, Bool.true_and, Bool.and_self, Bool.not_true, Bool.not_false])); (try rw [(N1 _).1]); ((try simp only [E1, R1, N2, V_cons, bw, optI, tru, notB, V_bind, V_pure, V_guard, V_ite, V_some, V_getS, V_setS, getE, asgT, setE, setsE, kilE, wipeE, D.strips, D.strip, isNop, B1, S1, P1, List.map, List.append, List.replicate, List.set_cons_zero, List.set_cons_succ, List.getElem?_cons_zero, List.getElem?_cons_succ, List.cons_append, List.nil_append, Tg.slots, if_true, Bool.false_eq_true, if_false, reduceIte, List.length_cons, List.length_nil]); (try simp only [ne_eq, reduceCtorEq, not_false_eq_true, not_true_eq_false, true_or, or_true, false_or, or_false, true_and, and_true, isPath, G1, P1, Bool.and_true, Bool.true_and, Bool.and_self, Bool.not_true, Bool.not_false])))
      exact q
  · rw [if_pos (by simp; omega)]
    rw [decide_eq_false hl] at q
    (((try simp only [E1, R1, N2, V_cons, bw, optI, tru, notB, V_bind, V_pure, V_guard, V_ite, V_some, V_getS, V_setS, getE, asgT, setE, setsE, kilE, wipeE, D.strips, D.strip, isNop, B1, S1, P1, List.map, List.append, List.replicate, List.set_cons_zero, List.set_cons_succ, List.getElem?_cons_zero, List.getElem?_cons_succ, List.cons_append, List.nil_append, Tg.slots, if_true, Bool.false_eq_true, if_false, reduceIte, List.length_cons, List.length_nil]); (try simp only [ne_eq, reduceCtorEq, not_false_eq_true, not_true_eq_false, true_or, or_true, false_or, or_false, true_and, and_true, isPath, G1, P1, Bool.and_true, Bool.true_and, Bool.and_self, Bool.not_true, Bool.not_false])); (try rw [(N1 _).1]); ((try simp only [E1, R1, N2, V_cons, bw, optI, tru, notB, V_bind, V_pure, V_guard, V_ite, V_some, V_getS, V_setS, getE, asgT, setE, setsE, kilE, wipeE, D.strips, D.strip, isNop, B1, S1, P1, List.map, List.append, List.replicate, List.set_cons_zero, List.set_cons_succ, List.getElem?_cons_zero, List.getElem?_cons_succ, List.cons_append, List.nil_append, Tg.slots, if_true, Bool.false_eq_true, if_false, reduceIte, List.length_cons, List.length_nil]); (try simp only [ne_eq, reduceCtorEq, not_false_eq_true, not_true_eq_false, true_or, or_true, false_or, or_false, true_and, and_true, isPath, G1, P1, Bool.and_true, Bool.true_and, Bool.and_self, Bool.not_true, Bool.not_false])))
    exact q
end
end Mp

namespace Mp
open PySem (Str CmpOp)
/-! ### values of all kinds -/
theorem ID : (isD .non .ratio = pure false) ∧ (isD .non .tuple = pure false) ∧ (isD .non .list = pure false) ∧ (isD .non .int = pure false) ∧ (isD .non .bool = pure false) ∧ (isD .non .str = pure false) ∧ (∀ b, isD (.bl b) .ratio = pure false) ∧ (∀ b, isD (.bl b) .tuple = pure false) ∧ (∀ b, isD (.bl b) .list = pure false) ∧ (∀ b, isD (.bl b) .int = pure true) ∧ (∀ b, isD (.bl b) .bool = pure true) ∧ (∀ b, isD (.bl b) .str = pure false) ∧ (∀ i, isD (.int i) .ratio = pure false) ∧ (∀ i, isD (.int i) .tuple = pure false) ∧ (∀ i, isD (.int i) .list = pure false) ∧ (∀ i, isD (.int i) .int = pure true) ∧ (∀ i, isD (.int i) .bool = pure false) ∧ (∀ i, isD (.int i) .str = pure false) ∧ (∀ x, isD (.str x) .ratio = pure false) ∧ (∀ x, isD (.str x) .tuple = pure false) ∧ (∀ x, isD (.str x) .list = pure false) ∧ (∀ x, isD (.str x) .int = pure false) ∧ (∀ x, isD (.str x) .bool = pure false) ∧ (∀ x, isD (.str x) .str = pure true) ∧ (∀ q, isD (.rat q) .ratio = pure true) ∧ (∀ q, isD (.rat q) .tuple = pure false) ∧ (∀ q, isD (.rat q) .list = pure false) ∧ (∀ q, isD (.rat q) .int = pure false) ∧ (∀ q, isD (.rat q) .bool = pure false) ∧ (∀ q, isD (.rat q) .str = pure false) ∧ (∀ ds, isD (.tup ds) .ratio = pure false) ∧ (∀ ds, isD (.tup ds) .tuple = pure true) ∧ (∀ ds, isD (.tup ds) .list = pure false) ∧ (∀ ds, isD (.tup ds) .int = pure false) ∧ (∀ ds, isD (.tup ds) .bool = pure false) ∧ (∀ ds, isD (.tup ds) .str = pure false) ∧ (∀ o ds, isD (.lst o ds) .ratio = pure false) ∧ (∀ o ds, isD (.lst o ds) .tuple = pure false) ∧ (∀ o ds, isD (.lst o ds) .list = pure true) ∧ (∀ o ds, isD (.lst o ds) .int = pure false) ∧ (∀ o ds, isD (.lst o ds) .bool = pure false) ∧ (∀ o ds, isD (.lst o ds) .str = pure false) := by
  repeat' apply And.intro
  all_goals intros
  all_goals rfl
mutual
/-- a value that may be asked about: its fractions are small -/
def D.gv : D → Prop
  | .strm => False
  | .scr _ => False
  | .rat q => Zb 300 300 q
  | .tup ds => D.gvs ds
  | _ => True
def D.gvs : List D → Prop
  | [] => True
  | d :: ds => D.gv d ∧ D.gvs ds
end
theorem gvs_all : ∀ {ds : List D}, D.gvs ds ↔ ∀ x ∈ ds, x.gv
  | [] => ⟨fun _ x h => absurd h List.not_mem_nil, fun _ => by rw [D.gvs]; trivial⟩
  | d :: ds => by
    rw [D.gvs, gvs_all]
    exact ⟨fun ⟨a, b⟩ x h => (List.mem_cons.mp h).elim (fun e => e ▸ a) (b x), fun h => ⟨h d List.mem_cons_self, fun x hx => h x (List.mem_cons_of_mem _ hx)⟩⟩
theorem noOwns_all : ∀ {ds : List D}, D.noOwns ds = true ↔ ∀ x ∈ ds, x.noOwn = true
  | [] => ⟨fun _ x h => absurd h List.not_mem_nil, fun _ => rfl⟩
  | d :: ds => by
    rw [D.noOwns, Bool.and_eq_true, noOwns_all]
    exact ⟨fun ⟨a, b⟩ x h => (List.mem_cons.mp h).elim (fun e => e ▸ a) (b x), fun h => ⟨h d List.mem_cons_self, fun x hx => h x (List.mem_cons_of_mem _ hx)⟩⟩
mutual
theorem gv_strip : ∀ {d : D}, d.gv → d.strip.gv
  | .non, h => h
  | .bl _, h => h
  | .int _, h => h
  | .str _, h => h
  | .rat _, h => h
  | .tup ds, h => by
    rw [D.strip, D.gv]
    rw [D.gv] at h
    exact gvs_strip h
  | .lst o ds, h => by rw [D.strip, D.gv]; trivial; all_goals intros; all_goals contradiction
  | .strm, h => h
  | .scr _, h => h
theorem gvs_strip : ∀ {ds : List D}, D.gvs ds → D.gvs (D.strips ds)
  | [], h => h
  | d :: ds, h => by
    rw [D.strips, D.gvs]
    rw [D.gvs] at h
    exact ⟨gv_strip h.1, gvs_strip h.2⟩
end
mutual
theorem strip_noOwn : ∀ {d : D}, d.strip.noOwn = true
  | .non => rfl
  | .bl _ => rfl
  | .int _ => rfl
  | .str _ => rfl
  | .rat _ => rfl
  | .tup ds => by rw [D.strip, D.noOwn]; exact strips_noOwns
  | .lst o ds => by rw [D.strip, D.noOwn]; exact strips_noOwns
  | .strm => rfl
  | .scr _ => rfl
theorem strips_noOwns : ∀ {ds : List D}, D.noOwns (D.strips ds) = true
  | [] => rfl
  | d :: ds => by rw [D.strips, D.noOwns, strip_noOwn, strips_noOwns]; rfl
end
mutual
theorem strip_own : ∀ {d : D}, d.noOwn = true → d.strip = d
  | .non, _ => rfl
  | .bl _, _ => rfl
  | .int _, _ => rfl
  | .str _, _ => rfl
  | .rat _, _ => rfl
  | .tup ds, h => by rw [D.noOwn] at h; rw [D.strip, strips_own h]
  | .lst o ds, h => by
    rw [D.noOwn, Bool.and_eq_true] at h
    rw [D.strip, strips_own h.2]
    cases o
    · rfl
    · cases h.1
  | .strm, _ => rfl
  | .scr _, _ => rfl
theorem strips_own : ∀ {ds : List D}, D.noOwns ds = true → D.strips ds = ds
  | [], _ => rfl
  | d :: ds, h => by
    rw [D.noOwns, Bool.and_eq_true] at h
    rw [D.strips, strip_own h.1, strips_own h.2]
end
/-- an item of a list at a drawn place -/
theorem ix_some {o : Bool} {ds : List D} {v : Int} (h0 : 0 ≤ v) (h1 : v < ds.length) : ∃ x ∈ ds, ixD (.lst o ds) (.int v) = pure x := by
  obtain ⟨j, rfl⟩ := Int.eq_ofNat_of_zero_le h0
  have hj : j < ds.length := by omega
  exact ⟨ds[j], List.getElem_mem hj, ix_lst (List.getElem?_eq_getElem hj)⟩
theorem ix_someT {ds : List D} {v : Int} (h0 : 0 ≤ v) (h1 : v < ds.length) : ∃ x ∈ ds, ixD (.tup ds) (.int v) = pure x := by
  obtain ⟨j, rfl⟩ := Int.eq_ofNat_of_zero_le h0
  have hj : j < ds.length := by omega
  exact ⟨ds[j], List.getElem_mem hj, ix_tup (List.getElem?_eq_getElem hj)⟩
theorem cut_mem {α : Type} {xs : List α} {lo hi : Option Int} : ∀ x ∈ cut xs lo hi, x ∈ xs := fun x h => List.mem_of_mem_drop (List.mem_of_mem_take h)
theorem cut_len {α : Type} {xs : List α} {lo hi : Option Int} : (cut xs lo hi).length ≤ xs.length := by
  unfold cut
  rw [List.length_take, List.length_drop]
  omega
theorem sl_tup {ds : List D} {lo hi : Option Int} : slD (.tup ds) lo hi = pure (.tup (cut ds lo hi)) := rfl
/-- the part of a statement that raises -/
theorem wp_ite {cf : CF} {E : String → Strm → Prop} {c : ME} {a b : MSs} {env : En} {s : Strm} {Q : Fl → Strm → Prop} (h : V (tru (ev cf env .t c)) s fun r s1 => if r = true then wpSs cf E a env s1 Q else wpSs cf E b env s1 Q) : wpS cf E (.ite c a b) env s Q := by
  rw [wpS]
  exact V_iff.mp h
theorem wp_asg {cf : CF} {E : String → Strm → Prop} {t : Tg} {e : ME} {env : En} {s : Strm} {Q : Fl → Strm → Prop} (h : V (run cf env (.asg t e)) s Q) : wpS cf E (.asg t e) env s Q := by
  rw [wpS]
  exact V_iff.mp h
theorem wp_loop {cf : CF} {E : String → Strm → Prop} {t : Tg} {it : MI} {b : MSs} {kill : List Nat} {env : En} {s : Strm} {Q : Fl → Strm → Prop} (h : V (items cf env it) s fun ds s1 => D.noOwns ds = true ∧ wpFor (fun e s Q => wpSs cf E b e s Q) t kill ds (kilE kill env) s1 Q) : wpS cf E (.loop t it b kill) env s Q := by
  rw [wpS]
  exact V_iff.mp h
theorem wp_cons {cf : CF} {E : String → Strm → Prop} {a : MS} {as : MSs} {env : En} {s : Strm} {Q : Fl → Strm → Prop} (h : wpS cf E a env s (nxS (fun e s Q => wpSs cf E as e s Q) Q)) : wpSs cf E (.cons a as) env s Q := by
  rw [wpSs]
  exact h
theorem wp_nil {cf : CF} {E : String → Strm → Prop} {env : En} {s : Strm} {Q : Fl → Strm → Prop} (h : Q (.nx env) s) : wpSs cf E .nil env s Q := by
  rw [wpSs]
  exact h
theorem wp_raise {cf : CF} {E : String → Strm → Prop} {c : String} {as : MSs} {env : En} {s : Strm} {Q : Fl → Strm → Prop} (h : E c s) : wpSs cf E (.cons (.raise c) as) env s Q := by
  rw [wpSs, wpS]
  exact h
/-- what a law with an end that catches has to show -/
theorem lawOk2_of {Γ : String → Option MDef} {k : Nat} {pre : MSs} {md : MDef} {bad : String} (hs : Γ "_law_stream" = some d__law_stream)
    (h : ∀ (ns : List Int) (s : Strm), ns.length ≤ 63 → Sok s → V (runs (callF Γ (k + 1)) (some (.scr ns) :: some .strm :: List.replicate 5 none) pre) s fun r s' => ∃ dv due, r = .nx [some (.scr ns), some .strm, some dv, some (.bl due), none, none, none] ∧ dv.noOwn = true ∧ dv.gv ∧
      wpSs (callF Γ k) (fun c _ => c = bad ∧ due = false) md.body (some dv :: List.replicate (md.n - 1) none) s' (fun r _ => match r with | .nx _ => due = true | _ => False)) : LawOk2 Γ k pre md bad := by
  intro ns hl
  obtain ⟨d, s', e, rfl, m, m0, m1, rfl⟩ := V_ok (V_stream (k := k) (s := ⟨[], 0, 0, 0⟩) (Q := fun d s' => s' = ⟨[], 0, 0, 0⟩ ∧ ∃ m : Int, 0 ≤ m ∧ m < 2147483647 ∧ d = .lst true [.lst true (ns.map .int), .int 0, .int 0, .int m]) hs (ns := ns) fun m m0 m1 => ⟨rfl, m, m0, m1, rfl⟩)
  refine ⟨_, ⟨ns, 0, 0, m⟩, e, ?_, Nat.le_trans hl (by decide), W_mono (V_iff.mp (h ns _ hl ⟨Int.le_refl _, m0, m1⟩)) fun r s' q => ?_⟩
  · show (intsD (ns.map .int)).map _ = _
    rw [ints_map]; rfl
  · obtain ⟨dv, due, rfl, q1, q2, q3⟩ := q
    refine ⟨dv, due, rfl, q1, ?_, q3⟩
    cases dv <;> first | exact q2.elim | exact ⟨_, rfl⟩
end Mp

namespace K20
open PySem PySem.Spec
open PyProof.Rows L2 Mp
def n_is_zero : List Str := ["a"]
def d_is_zero : MDef := ⟨1, 1, (.cons (.ret (.cmp .Eq (.top (.var 0)) (.int 0))) .nil)⟩
def n_is_negative : List Str := ["a"]
def d_is_negative : MDef := ⟨1, 1, (.cons (.ret (.cmp .Lt (.top (.var 0)) (.int 0))) .nil)⟩
def n_is_number : List Str := ["value"]
def d_is_number : MDef := ⟨1, 1, (.cons (.ret (.isi (.var 0) .ratio)) .nil)⟩
def n_check_move : List Str := ["value", "speed_now", "row"]
def d_check_move : MDef := ⟨1, 3, (.cons (.ite (.or (.not (.isi (.var 0) .tuple)) (.not (.chain .LtE .LtE (.int 1) (.bi .len (.cons (.var 0) .nil)) (.glob "MOST_PIECES" 6)))) (.cons (.raise "BadMove") .nil) .nil) (.cons (.asg (.nm 1) (.mk (.cons (.int 0) .nil))) (.cons (.loop (.nm 2) (.seq (.var 0)) (.cons (.ite (.or (.not (.isi (.var 2) .tuple)) (.or (.cmp .NotEq (.bi .len (.cons (.var 2) .nil)) (.int 2)) (.or (.not (.call "is_number" (.cons (.ix (.var 2) (.int 0)) .nil))) (.not (.call "is_number" (.cons (.ix (.var 2) (.int 1)) .nil)))))) (.cons (.raise "BadMove") .nil) .nil) (.cons (.ite (.or (.call "is_negative" (.cons (.ix (.var 2) (.int 0)) .nil)) (.call "is_zero" (.cons (.ix (.var 2) (.int 0)) .nil))) (.cons (.raise "BadMove") .nil) .nil) (.cons (.asg (.nm 1) (.bin .add (.var 1) (.bin .mul (.ix (.var 2) (.int 0)) (.ix (.var 2) (.int 1))))) .nil))) [2]) (.cons (.ite (.not (.call "is_zero" (.cons (.var 1) .nil))) (.cons (.raise "BadMove") .nil) .nil) .nil))))⟩
def n__law_stream : List Str := ["_law_script", "_law_mixed", "_law_cell"]
def d__law_stream : MDef := ⟨1, 3, (.cons (.asg (.nm 1) (.int 17)) (.cons (.loop (.nm 2) (.seq (.var 0)) (.cons (.asg (.nm 1) (.bin .mod (.bi .int (.cons (.bin .add (.bin .add (.bin .mul (.var 1) (.int 48271)) (.bin .mod (.bi .int (.cons (.var 2) .nil)) (.int 65521))) (.int 1)) .nil)) (.int 2147483647))) .nil) [2]) (.cons (.ret (.lst (.cons (.bi .list (.cons (.var 0) .nil)) (.cons (.int 0) (.cons (.int 0) (.cons (.var 1) .nil)))))) .nil)))⟩
def n__law_draw : List Str := ["_law_stream_here", "_law_many", "_law_value"]
def d__law_draw : MDef := ⟨2, 3, (.cons (.ite (.and (.cmp .Eq (.ix (.var 0) (.int 1)) (.int 0)) (.cmp .Lt (.ix (.var 0) (.int 2)) (.bi .len (.cons (.ix (.var 0) (.int 0)) .nil)))) (.cons (.set1 0 (.int 1) (.bi .abs (.cons (.bi .int (.cons (.ix (.ix (.var 0) (.int 0)) (.ix (.var 0) (.int 2))) .nil)) .nil))) (.cons (.set1 0 (.int 2) (.bin .add (.ix (.var 0) (.int 2)) (.int 1))) .nil)) .nil) (.cons (.ite (.cmp .Eq (.ix (.var 0) (.int 1)) (.int 0)) (.cons (.set1 0 (.int 3) (.bin .mod (.bi .int (.cons (.bin .add (.bin .mul (.ix (.var 0) (.int 3)) (.int 48271)) (.int 11)) .nil)) (.int 2147483647))) (.cons (.ret (.bin .mod (.bi .int (.cons (.bin .fdiv (.ix (.var 0) (.int 3)) (.int 97)) .nil)) (.var 1))) .nil)) .nil) (.cons (.asg (.nm 2) (.bin .mod (.bi .int (.cons (.ix (.var 0) (.int 1)) .nil)) (.var 1))) (.cons (.set1 0 (.int 1) (.bin .fdiv (.ix (.var 0) (.int 1)) (.var 1))) (.cons (.ret (.var 2)) .nil)))))⟩
def n__law_pair : List Str := ["_law_n", "_law_d", "_law_a", "_law_b"]
def d__law_pair : MDef := ⟨2, 4, (.cons (.asg (.nm 2) (.bi .abs (.cons (.var 0) .nil))) (.cons (.asg (.nm 3) (.bi .abs (.cons (.var 1) .nil))) (.cons (.while 100000 (.cmp .Gt (.var 3) (.int 0)) (.cons (.par 2 3 (.var 3) (.bin .mod (.bi .int (.cons (.var 2) .nil)) (.bi .int (.cons (.var 3) .nil)))) .nil) []) (.cons (.ite (.cmp .Lt (.var 1) (.int 0)) (.cons (.asg (.nm 2) (.bin .sub (.int 0) (.var 2))) .nil) .nil) (.cons (.ret (.tup (.cons (.bin .fdiv (.var 0) (.var 2)) (.cons (.bin .fdiv (.var 1) (.var 2)) .nil)))) .nil)))))⟩
def n__law_sum : List Str := ["_law_a", "_law_b"]
def d__law_sum : MDef := ⟨2, 2, (.cons (.ret (.call "_law_pair" (.cons (.bin .add (.bin .mul (.ix (.var 0) (.int 0)) (.ix (.var 1) (.int 1))) (.bin .mul (.ix (.var 1) (.int 0)) (.ix (.var 0) (.int 1)))) (.cons (.bin .mul (.ix (.var 0) (.int 1)) (.ix (.var 1) (.int 1))) .nil)))) .nil)⟩
def n__law_minus : List Str := ["_law_a"]
def d__law_minus : MDef := ⟨1, 1, (.cons (.ret (.tup (.cons (.bin .sub (.int 0) (.ix (.var 0) (.int 0))) (.cons (.ix (.var 0) (.int 1)) .nil)))) .nil)⟩
def n__law_times : List Str := ["_law_a", "_law_b"]
def d__law_times : MDef := ⟨2, 2, (.cons (.ret (.call "_law_pair" (.cons (.bin .mul (.ix (.var 0) (.int 0)) (.ix (.var 1) (.int 0))) (.cons (.bin .mul (.ix (.var 0) (.int 1)) (.ix (.var 1) (.int 1))) .nil)))) .nil)⟩
def n__law_over : List Str := ["_law_a", "_law_b"]
def d__law_over : MDef := ⟨2, 2, (.cons (.ret (.call "_law_pair" (.cons (.bin .mul (.ix (.var 0) (.int 0)) (.ix (.var 1) (.int 1))) (.cons (.bin .mul (.ix (.var 0) (.int 1)) (.ix (.var 1) (.int 0))) .nil)))) .nil)⟩
def n__law_size : List Str := ["_law_a"]
def d__law_size : MDef := ⟨1, 1, (.cons (.ret (.tup (.cons (.bi .abs (.cons (.ix (.var 0) (.int 0)) .nil)) (.cons (.ix (.var 0) (.int 1)) .nil)))) .nil)⟩
def n__law_ratio : List Str := ["_law_a"]
def d__law_ratio : MDef := ⟨1, 1, (.cons (.ret (.mk (.cons (.ix (.var 0) (.int 0)) (.cons (.ix (.var 0) (.int 1)) .nil)))) .nil)⟩
def n__law_told : List Str := ["_law_value"]
def d__law_told : MDef := ⟨1, 1, (.cons (.ite (.not (.isi (.var 0) .ratio)) (.cons (.ret .non) .nil) .nil) (.cons (.ret (.tup (.cons (.top (.var 0)) (.cons (.bot (.var 0)) .nil)))) .nil))⟩
def n__law_number : List Str := ["_law_stream_here"]
def d__law_number : MDef := ⟨1, 1, (.cons (.ite (.cmp .Eq (.call "_law_draw" (.cons (.var 0) (.cons (.int 12) .nil))) (.int 0)) (.cons (.ret (.call "_law_pair" (.cons (.bin .sub (.call "_law_draw" (.cons (.var 0) (.cons (.bin .pow (.int 10) (.int 9)) .nil))) (.bin .mul (.int 5) (.bin .pow (.int 10) (.int 8)))) (.cons (.bin .add (.int 1) (.call "_law_draw" (.cons (.var 0) (.cons (.bin .pow (.int 10) (.int 6)) .nil)))) .nil)))) .nil) .nil) (.cons (.ret (.call "_law_pair" (.cons (.bin .sub (.call "_law_draw" (.cons (.var 0) (.cons (.int 25) .nil))) (.int 12)) (.cons (.bin .add (.int 1) (.call "_law_draw" (.cons (.var 0) (.cons (.ix (.lst (.cons (.int 1) (.cons (.int 6) .nil))) (.call "_law_draw" (.cons (.var 0) (.cons (.int 2) .nil)))) .nil)))) .nil)))) .nil))⟩
def n__law_some : List Str := ["_law_stream_here", "_law_a"]
def d__law_some : MDef := ⟨1, 2, (.cons (.asg (.nm 1) (.call "_law_size" (.cons (.call "_law_number" (.cons (.var 0) .nil)) .nil))) (.cons (.ite (.cmp .Eq (.ix (.var 1) (.int 0)) (.int 0)) (.cons (.ret (.tup (.cons (.int 1) (.cons (.ix (.var 1) (.int 1)) .nil)))) .nil) .nil) (.cons (.ret (.var 1)) .nil)))⟩
def n__law_move : List Str := ["_law_stream_here", "_law_rows", "_law_speed_now", "_law_k", "_law_row", "_law_d"]
def d__law_move : MDef := ⟨1, 6, (.cons (.asg (.nm 1) (.lst .nil)) (.cons (.asg (.nm 2) (.tup (.cons (.int 0) (.cons (.int 1) .nil)))) (.cons (.loop (.nm 3) (.rng (.call "_law_draw" (.cons (.var 0) (.cons (.int 6) .nil)))) (.cons (.asg (.nm 4) (.tup (.cons (.call "_law_some" (.cons (.var 0) .nil)) (.cons (.call "_law_number" (.cons (.var 0) .nil)) .nil)))) (.cons (.asg (.nm 2) (.call "_law_sum" (.cons (.var 2) (.cons (.call "_law_times" (.cons (.ix (.var 4) (.int 0)) (.cons (.ix (.var 4) (.int 1)) .nil))) .nil)))) (.cons (.app 1 (.var 4)) .nil))) [3, 4]) (.cons (.asg (.nm 5) (.call "_law_some" (.cons (.var 0) .nil))) (.cons (.app 1 (.tup (.cons (.var 5) (.cons (.call "_law_minus" (.cons (.call "_law_over" (.cons (.var 2) (.cons (.var 5) .nil))) .nil)) .nil)))) (.cons (.retv 1) .nil))))))⟩
def n__law_made : List Str := ["_law_rows", "_law_row"]
def d__law_made : MDef := ⟨1, 2, (.cons (.ret (.bi .tuple (.cons (.lc (.nm 1) (.seq (.var 0)) .nop (.tup (.cons (.call "_law_ratio" (.cons (.ix (.var 1) (.int 0)) .nil)) (.cons (.call "_law_ratio" (.cons (.ix (.var 1) (.int 1)) .nil)) .nil)))) .nil))) .nil)⟩
def n__law_is_move : List Str := ["_law_value", "_law_total", "_law_row"]
def d__law_is_move : MDef := ⟨1, 3, (.cons (.ite (.or (.not (.isi (.var 0) .tuple)) (.not (.chain .LtE .LtE (.int 1) (.bi .len (.cons (.var 0) .nil)) (.int 6)))) (.cons (.ret (.bl false)) .nil) .nil) (.cons (.asg (.nm 1) (.tup (.cons (.int 0) (.cons (.int 1) .nil)))) (.cons (.loop (.nm 2) (.seq (.var 0)) (.cons (.ite (.or (.not (.isi (.var 2) .tuple)) (.or (.cmp .NotEq (.bi .len (.cons (.var 2) .nil)) (.int 2)) (.or (.not (.isi (.ix (.var 2) (.int 0)) .ratio)) (.not (.isi (.ix (.var 2) (.int 1)) .ratio))))) (.cons (.ret (.bl false)) .nil) .nil) (.cons (.ite (.cmp .LtE (.top (.ix (.var 2) (.int 0))) (.int 0)) (.cons (.ret (.bl false)) .nil) .nil) (.cons (.asg (.nm 1) (.call "_law_sum" (.cons (.var 1) (.cons (.call "_law_times" (.cons (.call "_law_told" (.cons (.ix (.var 2) (.int 0)) .nil)) (.cons (.call "_law_told" (.cons (.ix (.var 2) (.int 1)) .nil)) .nil))) .nil)))) .nil))) [2]) (.cons (.ret (.cmp .Eq (.ix (.var 1) (.int 0)) (.int 0))) .nil))))⟩
def n__law_hurt : List Str := ["_law_stream_here", "_law_value", "_law_at", "_law_row", "_law_odd", "_law_pick", "_law_spot"]
def d__law_hurt : MDef := ⟨2, 7, (.cons (.asg (.nm 2) (.call "_law_draw" (.cons (.var 0) (.cons (.bi .len (.cons (.var 1) .nil)) .nil)))) (.cons (.asg (.nm 3) (.ix (.var 1) (.var 2))) (.cons (.asg (.nm 4) (.lst (.cons (.int 0) (.cons (.int 1) (.cons (.bl true) (.cons .non (.cons (.str "1") (.cons (.tup .nil) (.cons (.mk (.cons (.int 0) .nil)) (.cons (.mk (.cons (.neg (.int 1)) (.cons (.int 3) .nil))) (.cons (.mk (.cons (.int 1) .nil)) (.cons (.tup (.cons (.int 1) (.cons (.int 1) .nil))) (.cons (.lst .nil) (.cons (.mk (.cons (.int 2) .nil)) .nil)))))))))))))) (.cons (.asg (.nm 5) (.call "_law_draw" (.cons (.var 0) (.cons (.int 10) .nil)))) (.cons (.ite (.cmp .Lt (.var 5) (.int 4)) (.cons (.asg (.nm 6) (.call "_law_draw" (.cons (.var 0) (.cons (.int 2) .nil)))) (.cons (.frz 4) (.cons (.asg (.nm 3) (.bin .add (.bin .add (.sl (.var 3) .nop (.var 6)) (.tup (.cons (.ix (.var 4) (.call "_law_draw" (.cons (.var 0) (.cons (.bi .len (.cons (.var 4) .nil)) .nil)))) .nil))) (.sl (.var 3) (.bin .add (.var 6) (.int 1)) .nop))) .nil))) (.cons (.ite (.cmp .Eq (.var 5) (.int 4)) (.cons (.asg (.nm 3) (.ix (.lst (.cons (.sl (.var 3) .nop (.int 1)) (.cons (.bin .add (.var 3) (.tup (.cons (.mk (.cons (.int 0) .nil)) .nil))) (.cons (.tup .nil) (.cons (.bi .list (.cons (.var 3) .nil)) (.cons .non .nil)))))) (.call "_law_draw" (.cons (.var 0) (.cons (.int 5) .nil))))) .nil) (.cons (.ite (.cmp .Eq (.var 5) (.int 5)) (.cons (.ret (.ix (.lst (.cons (.bi .list (.cons (.var 1) .nil)) (.cons (.tup .nil) (.cons .non (.cons (.int 3) (.cons (.ix (.var 1) (.int 0)) (.cons (.str "move") .nil))))))) (.call "_law_draw" (.cons (.var 0) (.cons (.int 6) .nil))))) .nil) (.cons (.ite (.cmp .Eq (.var 5) (.int 6)) (.cons (.ret (.bin .add (.var 1) (.bin .mul (.tup (.cons (.tup (.cons (.mk (.cons (.int 1) .nil)) (.cons (.mk (.cons (.int 0) .nil)) .nil))) .nil)) (.bin .add (.int 1) (.call "_law_draw" (.cons (.var 0) (.cons (.int 6) .nil))))))) .nil) (.cons (.ite (.cmp .Eq (.var 5) (.int 7)) (.cons (.ret (.bin .add (.sl (.var 1) .nop (.var 2)) (.sl (.var 1) (.bin .add (.var 2) (.int 1)) .nop))) .nil) (.cons (.ite (.cmp .Eq (.var 5) (.int 8)) (.cons (.asg (.nm 3) (.tup (.cons (.call "_law_ratio" (.cons (.call "_law_some" (.cons (.var 0) .nil)) .nil)) (.cons (.ix (.var 3) (.int 1)) .nil)))) .nil) (.cons (.asg (.nm 3) (.tup (.cons (.ix (.var 3) (.int 0)) (.cons (.neg (.ix (.var 3) (.int 1))) .nil)))) .nil)) .nil)) .nil)) .nil)) .nil)) .nil)) (.cons (.frz 3) (.cons (.ret (.bin .add (.bin .add (.sl (.var 1) .nop (.var 2)) (.tup (.cons (.var 3) .nil))) (.sl (.var 1) (.bin .add (.var 2) (.int 1)) .nop))) .nil)))))))⟩
def n_law : List Str := ["_law_script", "_law_stream_here", "_law_value", "_law_due", "_law_kept", "_law_found", "e"]
def d_pre : MSs := (.cons (.asg (.nm 2) (.call "_law_made" (.cons (.call "_law_move" (.cons (.var 1) .nil)) .nil))) (.cons (.ite (.cmp .Gt (.call "_law_draw" (.cons (.var 1) (.cons (.int 3) .nil))) (.int 0)) (.cons (.asg (.nm 2) (.call "_law_hurt" (.cons (.var 1) (.cons (.var 2) .nil)))) .nil) .nil) (.cons (.asg (.nm 3) (.call "_law_is_move" (.cons (.var 2) .nil))) (.cons (.frz 2) .nil))))
def gam : List (String × MDef) := [("is_zero", d_is_zero), ("is_negative", d_is_negative), ("is_number", d_is_number), ("_law_stream", d__law_stream), ("_law_draw", d__law_draw), ("_law_pair", d__law_pair), ("_law_sum", d__law_sum), ("_law_minus", d__law_minus), ("_law_times", d__law_times), ("_law_over", d__law_over), ("_law_size", d__law_size), ("_law_ratio", d__law_ratio), ("_law_told", d__law_told), ("_law_number", d__law_number), ("_law_some", d__law_some), ("_law_move", d__law_move), ("_law_made", d__law_made), ("_law_is_move", d__law_is_move), ("_law_hurt", d__law_hurt)]
def Γ : String → Option MDef := fun f => gam.lookup f
def Gs : String → Option Int := fun x => if x = "MOST_PIECES" then some 6 else none
def top (i : Nat) : Stmt := PySem.Challenge.pw_traproom_k20_good_moves.main.body.getD i (.Pass ⟨0, 0, 0, 0⟩)
def fa : List He.Fa := [.glo "is_zero", .glo "is_negative", .glo "is_number", .glo "check_move", .glo "_law_stream", .glo "_law_draw", .glo "_law_pair", .glo "_law_sum", .glo "_law_minus", .glo "_law_times", .glo "_law_over", .glo "_law_size", .glo "_law_ratio", .glo "_law_told", .glo "_law_number", .glo "_law_some", .glo "_law_move", .glo "_law_made", .glo "_law_is_move", .glo "_law_hurt", .glo "law", .int "MOST_PIECES" 6, .glo "TraproomError", .glo "ByZero", .glo "BadMove", .glo "BadSheet", .glo "BadShow", .glo "BadFault", .glo "BadCall", .exc "BadMove", .exc "BadSheet", .free "ValueError", .exm "BadMove" "TraproomError" true]
def fnM : List He.DefD := [dMod "is_zero" (top 11), dMod "is_negative" (top 12), dMod "is_number" (top 15), dMod "check_move" (top 16), dMod "_law_stream" (top 18), dMod "_law_draw" (top 19), dMod "_law_pair" (top 20), dMod "_law_sum" (top 21), dMod "_law_minus" (top 22), dMod "_law_times" (top 23), dMod "_law_over" (top 24), dMod "_law_size" (top 25), dMod "_law_ratio" (top 26), dMod "_law_told" (top 27), dMod "_law_number" (top 28), dMod "_law_some" (top 29), dMod "_law_move" (top 30), dMod "_law_made" (top 31), dMod "_law_is_move" (top 32), dMod "_law_hurt" (top 33), dMod "law" (top 34)]
def fa' : List He.Fa := faR ++ fa
def fn' : List He.DefD := fnR (top 9) (top 10) ++ fnM
def tn : TlN := ⟨"_law_value", "_law_due", "_law_kept", "_law_found", "check_move", "BadMove", "BadSheet"⟩
def exX (K : PySem.W.Frag) : Bool :=
  let D := He.ga K (Str.ofString "BadMove")
  ((decide (PySem.W.findIn K (.ref D) "__getattribute__" = some (some (.builtin "BaseException.__getattribute__"))) && decide (PySem.W.findIn K (.ref D) "__getattr__" = some none)) && (decide (PySem.W.subIn K (.ref D) (.type "BaseException") = some true) && decide (PySem.W.hasDictIn K D = true))) &&
  (((decide (PySem.W.findIn K (.ref D) "__class__" = some (some (.builtin "object.__class__"))) && decide (PySem.W.specialIn K (.builtin "object.__class__") "__get__" = some (some (.builtin "getset_descriptor.__get__")))) && (decide (PySem.W.takesIn K (.builtin "object.__class__") = some true) && decide (PySem.W.mroIn K D (.type "object") = some true))) &&
  (((decide (PySem.W.kitOne K (.ref D) (.ref (He.ga K (Str.ofString "BadMove"))) = some true) && decide (PySem.W.kitOne K (.ref D) (.ref (He.ga K (Str.ofString "BadSheet"))) = some false)) && (decide (PySem.W.kitOne K (.ref D) (.ref (He.ga K "ByZero")) = some false) && decide (PySem.W.kitOne K (.ref D) (.ref (He.ga K "BadShow")) = some false))) &&
  ((decide (PySem.W.kitOne K (.ref D) (.ref (He.ga K "BadFault")) = some false) && decide (PySem.W.kitOne K (.ref D) (.ref (He.ga K "BadCall")) = some false)) && decide (PySem.W.kitOne K (.ref D) (.type "ValueError") = some true))))
def exQ (K : PySem.W.Frag) : Bool := exR K && exX K
theorem e_is_zero : embSs n_is_zero Γ Gs (defScope (top 11)) d_is_zero.body (defBody (top 11)) = true := by decide +kernel
theorem e_is_negative : embSs n_is_negative Γ Gs (defScope (top 12)) d_is_negative.body (defBody (top 12)) = true := by decide +kernel
theorem e_is_number : embSs n_is_number Γ Gs (defScope (top 15)) d_is_number.body (defBody (top 15)) = true := by decide +kernel
theorem e__law_stream : embSs n__law_stream Γ Gs (defScope (top 18)) d__law_stream.body (defBody (top 18)) = true := by decide +kernel
theorem e__law_draw : embSs n__law_draw Γ Gs (defScope (top 19)) d__law_draw.body (defBody (top 19)) = true := by decide +kernel
theorem e__law_pair : embSs n__law_pair Γ Gs (defScope (top 20)) d__law_pair.body (defBody (top 20)) = true := by decide +kernel
theorem e__law_sum : embSs n__law_sum Γ Gs (defScope (top 21)) d__law_sum.body (defBody (top 21)) = true := by decide +kernel
theorem e__law_minus : embSs n__law_minus Γ Gs (defScope (top 22)) d__law_minus.body (defBody (top 22)) = true := by decide +kernel
theorem e__law_times : embSs n__law_times Γ Gs (defScope (top 23)) d__law_times.body (defBody (top 23)) = true := by decide +kernel
theorem e__law_over : embSs n__law_over Γ Gs (defScope (top 24)) d__law_over.body (defBody (top 24)) = true := by decide +kernel
theorem e__law_size : embSs n__law_size Γ Gs (defScope (top 25)) d__law_size.body (defBody (top 25)) = true := by decide +kernel
theorem e__law_ratio : embSs n__law_ratio Γ Gs (defScope (top 26)) d__law_ratio.body (defBody (top 26)) = true := by decide +kernel
theorem e__law_told : embSs n__law_told Γ Gs (defScope (top 27)) d__law_told.body (defBody (top 27)) = true := by decide +kernel
theorem e__law_number : embSs n__law_number Γ Gs (defScope (top 28)) d__law_number.body (defBody (top 28)) = true := by decide +kernel
theorem e__law_some : embSs n__law_some Γ Gs (defScope (top 29)) d__law_some.body (defBody (top 29)) = true := by decide +kernel
theorem e__law_move : embSs n__law_move Γ Gs (defScope (top 30)) d__law_move.body (defBody (top 30)) = true := by decide +kernel
theorem e__law_made : embSs n__law_made Γ Gs (defScope (top 31)) d__law_made.body (defBody (top 31)) = true := by decide +kernel
theorem e__law_is_move : embSs n__law_is_move Γ Gs (defScope (top 32)) d__law_is_move.body (defBody (top 32)) = true := by decide +kernel
theorem e__law_hurt : embSs n__law_hurt Γ Gs (defScope (top 33)) d__law_hurt.body (defBody (top 33)) = true := by decide +kernel
theorem e_check_move : embXs n_check_move Γ Gs (defScope (top 16)) d_check_move.body (defBody (top 16)) = true := by decide +kernel
theorem e_law : embSs n_law Γ Gs (defScope (top 34)) (.cons (.asg (.nm 1) (.call "_law_stream" (.cons (.var 0) .nil))) d_pre) ((defBody (top 34)).take 4) = true := by decide +kernel
theorem e_tail : tailB tn ((defBody (top 34)).drop 4) = true := by decide +kernel
theorem e_tl : tlC n_law (defScope (top 34)) tn = true := by decide +kernel
section
variable {P : Program} {w : World} {K : PySem.W.Frag} {h : Heap} {mg : Str → Option Value} {base : Heap}
theorem rt (X : K.In h) (G : h.Ns mainGlobals mg) (c : He.SaysD fa' fn' K) (ex : exR K = true) : Rt P w K mg base (He.ga K "Ratio") Gs := by
  have fr : ∀ f ∈ faR, f.ok K = true := fun f hf => says_fact c (List.mem_append_left _ hf)
  unfold exR at ex
  simp only [Bool.and_eq_true, decide_eq_true_eq, List.all_eq_true] at ex
  obtain ⟨⟨x1, x2, x3, x4⟩, x5, x6, x7, x8⟩ := ex
  have gR : mg "Ratio" = some (.ref (He.ga K "Ratio")) := He.glo_ok X G (fr (.glo "Ratio") (by simp [faR]))
  have gG : mg "greatest_divisor" = some (.ref (He.ga K "greatest_divisor")) := He.glo_ok X G (fr (.glo "greatest_divisor") (by simp [faR]))
  have rc : Rc K (He.ga K "Ratio") := ⟨He.cls_ok (fr (.cls "Ratio") (by simp [faR])), ⟨x1, x2, x3, x4⟩, He.noat_ok (fr (.noat "Ratio" "top") (by simp [faR])), He.noat_ok (fr (.noat "Ratio" "bottom") (by simp [faR]))⟩
  have free : ∀ x ∈ blt, mg x = none := fun x hx => He.free_ok X G (fr (.free x) (List.mem_append_left _ (List.mem_map_of_mem hx)))
  have mAdd := He.meth_ok (fr (.meth "Ratio" "__add__") (by simp [faR]))
  have mSub := He.meth_ok (fr (.meth "Ratio" "__sub__") (by simp [faR]))
  have mMul := He.meth_ok (fr (.meth "Ratio" "__mul__") (by simp [faR]))
  have mNeg := He.meth_ok (fr (.meth "Ratio" "__neg__") (by simp [faR]))
  have mEq := He.meth_ok (fr (.meth "Ratio" "__eq__") (by simp [faR]))
  have mNe := He.meth_ok (fr (.meth "Ratio" "__ne__") (by simp [faR]))
  have mMk := He.mkr_ok (fr (.mkr "Ratio") (by simp [faR]))
  obtain ⟨fg, FG⟩ := c.def_ 0 (d := dMod "greatest_divisor" (top 9)) rfl
  obtain ⟨fi, FI⟩ := c.def_ 1 (d := dMet "__init__" "Ratio.__init__" (kid (top 10) 0) [.int 1]) rfl
  obtain ⟨fe, FE⟩ := c.def_ 2 (d := dMet "__eq__" "Ratio.__eq__" (kid (top 10) 1) []) rfl
  obtain ⟨fne, FNE⟩ := c.def_ 3 (d := dMet "__ne__" "Ratio.__ne__" (kid (top 10) 2) []) rfl
  obtain ⟨fad, FAD⟩ := c.def_ 4 (d := dMet "__add__" "Ratio.__add__" (kid (top 10) 3) []) rfl
  obtain ⟨fsu, FSU⟩ := c.def_ 5 (d := dMet "__sub__" "Ratio.__sub__" (kid (top 10) 4) []) rfl
  obtain ⟨fmu, FMU⟩ := c.def_ 6 (d := dMet "__mul__" "Ratio.__mul__" (kid (top 10) 5) []) rfl
  obtain ⟨fnu, FNU⟩ := c.def_ 7 (d := dMet "__neg__" "Ratio.__neg__" (kid (top 10) 6) []) rfl
  have bG : Binds K fg ["a", "b"] [] := FunD.bindsN (ps := ["a", "b"]) FG fun _ _ _ _ _ _ us hl => match us, hl with | [_, _], _ => rfl
  have OG : FnOk P w K mg base CX0 1 (He.fAd K ("greatest_divisor", none)) fg ["a", "b"] spGcd := ok_gcd FG (scQ_ok (by decide +kernel)) (by decide +kernel) (by decide +kernel) (by decide +kernel) (by decide +kernel) (free "abs" (by decide +kernel))
  have OI : FnOk P w K mg base CX0 2 (He.ma K (He.ga K "Ratio") "__init__") fi ["self", "n", "d"] (spInit (He.ga K "Ratio")) := ok_init FI (scQ_ok (by decide +kernel)) (by decide +kernel) (by decide +kernel) (by decide +kernel) OG gG FG.kp bG rc.cls rc.nt rc.nb
  have b0 : Binds K fi ["self", "n", "d"] [] := by
    obtain ⟨ds, v, b⟩ := FunD.binds1 (ps := ["self", "n", "d"]) FI 3 1 (by simp [He.DefD.dvs, dMet]) rfl fun T kV doc pm an cdv ct us its hl hl2 => match us, its, hl, hl2 with | [_, _, _], [_], _, _ => ⟨_, rfl, rfl⟩
    cases v
    exact b
  obtain ⟨ds, v1, b1⟩ := FunD.binds1 (ps := ["self", "n", "d"]) FI 2 0 (by simp [He.DefD.dvs, dMet]) rfl fun T kV doc pm an cdv ct us its hl hl2 => match us, its, hl, hl2 with | [_, _], [_], _, _ => ⟨_, rfl, rfl⟩
  have M : RMk P w K mg base (He.ga K "Ratio") := ⟨⟨_, fi, ds, mMk, OI, b0, b1, v1⟩, gR⟩
  have z2 : ∀ {sc : Scope}, (scQ two two sc && (visC sc "self" && (visC sc "other" && glC sc "Ratio"))) = true → Sc2 sc := fun h => by
    simp only [Bool.and_eq_true] at h
    exact ⟨scQ_ok h.1, h.2.1, h.2.2.1, h.2.2.2⟩
  have OE := ok_eq (P := P) (w := w) (base := base) rc x6 gR (free "isinstance" (by decide +kernel)) FE (z2 (by decide +kernel)) (by decide +kernel)
  have ME : MethOk P w K mg base (He.ga K "Ratio") "__eq__" 1 (spRel (He.ga K "Ratio") false) := ⟨⟨_, fe, two, OE, mEq.at_, mEq.fn, FunD.bindsN (ps := two) FE fun _ _ _ _ _ _ us hl => match us, hl with | [_, _], _ => rfl⟩⟩
  exact
    { free := free, gl := fun x i hx => (by unfold Gs at hx; repeat (first | (split at hx; (cases hx; subst_vars; exact He.int_ok X G (says_fact c (List.mem_append_right _ (by simp [fa]))))) | cases hx)), rc := rc, isT := x5, isC := x6, isB := x7, first := x8, rmk := M,
      add := ⟨⟨_, fad, two, ok_add M rc FAD (z2 (by decide +kernel)), mAdd.at_, mAdd.fn, FunD.bindsN (ps := two) FAD fun _ _ _ _ _ _ us hl => match us, hl with | [_, _], _ => rfl⟩⟩,
      sub := ⟨⟨_, fsu, two, ok_sub M rc FSU (z2 (by decide +kernel)), mSub.at_, mSub.fn, FunD.bindsN (ps := two) FSU fun _ _ _ _ _ _ us hl => match us, hl with | [_, _], _ => rfl⟩⟩,
      mul := ⟨⟨_, fmu, two, ok_mul M rc FMU (z2 (by decide +kernel)), mMul.at_, mMul.fn, FunD.bindsN (ps := two) FMU fun _ _ _ _ _ _ us hl => match us, hl with | [_, _], _ => rfl⟩⟩,
      neg := ⟨⟨_, fnu, one, ok_neg M rc FNU (scQ_ok (by decide +kernel)) (by decide +kernel) (by decide +kernel), mNeg.at_, mNeg.fn, FunD.bindsN (ps := one) FNU fun _ _ _ _ _ _ us hl => match us, hl with | [_], _ => rfl⟩⟩,
      eq := ME,
      ne := ⟨⟨_, fne, two, ok_ne (Nat.le_refl 1) FNE ME (scQ_ok (by decide +kernel)) (by decide +kernel) (by decide +kernel), mNe.at_, mNe.fn, FunD.bindsN (ps := two) FNE fun _ _ _ _ _ _ us hl => match us, hl with | [_, _], _ => rfl⟩⟩ }
theorem defs (X : K.In h) (G : h.Ns mainGlobals mg) (c : He.SaysD fa' fn' K) : ∀ f md, Γ f = some md → DefOk K mg Γ Gs f md := by
  have key : ∀ q ∈ gam, DefOk K mg Γ Gs q.1 q.2 := by
    intro q hq
    simp only [gam, List.mem_cons, List.not_mem_nil, or_false] at hq
    rcases hq with rfl | rfl | rfl | rfl | rfl | rfl | rfl | rfl | rfl | rfl | rfl | rfl | rfl | rfl | rfl | rfl | rfl | rfl | rfl
    · exact defok_of (N := n_is_zero) (ps := ["a"]) (st := top 11) X G c (List.mem_append_right _ (by simp [fnM])) (List.mem_append_right _ (by simp [fa])) (by decide +kernel) rfl rfl (fun _ _ _ _ _ _ us hl => match us, hl with | [_], _ => rfl) e_is_zero
    · exact defok_of (N := n_is_negative) (ps := ["a"]) (st := top 12) X G c (List.mem_append_right _ (by simp [fnM])) (List.mem_append_right _ (by simp [fa])) (by decide +kernel) rfl rfl (fun _ _ _ _ _ _ us hl => match us, hl with | [_], _ => rfl) e_is_negative
    · exact defok_of (N := n_is_number) (ps := ["value"]) (st := top 15) X G c (List.mem_append_right _ (by simp [fnM])) (List.mem_append_right _ (by simp [fa])) (by decide +kernel) rfl rfl (fun _ _ _ _ _ _ us hl => match us, hl with | [_], _ => rfl) e_is_number
    · exact defok_of (N := n__law_stream) (ps := ["_law_script"]) (st := top 18) X G c (List.mem_append_right _ (by simp [fnM])) (List.mem_append_right _ (by simp [fa])) (by decide +kernel) rfl rfl (fun _ _ _ _ _ _ us hl => match us, hl with | [_], _ => rfl) e__law_stream
    · exact defok_of (N := n__law_draw) (ps := ["_law_stream_here", "_law_many"]) (st := top 19) X G c (List.mem_append_right _ (by simp [fnM])) (List.mem_append_right _ (by simp [fa])) (by decide +kernel) rfl rfl (fun _ _ _ _ _ _ us hl => match us, hl with | [_, _], _ => rfl) e__law_draw
    · exact defok_of (N := n__law_pair) (ps := ["_law_n", "_law_d"]) (st := top 20) X G c (List.mem_append_right _ (by simp [fnM])) (List.mem_append_right _ (by simp [fa])) (by decide +kernel) rfl rfl (fun _ _ _ _ _ _ us hl => match us, hl with | [_, _], _ => rfl) e__law_pair
    · exact defok_of (N := n__law_sum) (ps := ["_law_a", "_law_b"]) (st := top 21) X G c (List.mem_append_right _ (by simp [fnM])) (List.mem_append_right _ (by simp [fa])) (by decide +kernel) rfl rfl (fun _ _ _ _ _ _ us hl => match us, hl with | [_, _], _ => rfl) e__law_sum
    · exact defok_of (N := n__law_minus) (ps := ["_law_a"]) (st := top 22) X G c (List.mem_append_right _ (by simp [fnM])) (List.mem_append_right _ (by simp [fa])) (by decide +kernel) rfl rfl (fun _ _ _ _ _ _ us hl => match us, hl with | [_], _ => rfl) e__law_minus
    · exact defok_of (N := n__law_times) (ps := ["_law_a", "_law_b"]) (st := top 23) X G c (List.mem_append_right _ (by simp [fnM])) (List.mem_append_right _ (by simp [fa])) (by decide +kernel) rfl rfl (fun _ _ _ _ _ _ us hl => match us, hl with | [_, _], _ => rfl) e__law_times
    · exact defok_of (N := n__law_over) (ps := ["_law_a", "_law_b"]) (st := top 24) X G c (List.mem_append_right _ (by simp [fnM])) (List.mem_append_right _ (by simp [fa])) (by decide +kernel) rfl rfl (fun _ _ _ _ _ _ us hl => match us, hl with | [_, _], _ => rfl) e__law_over
    · exact defok_of (N := n__law_size) (ps := ["_law_a"]) (st := top 25) X G c (List.mem_append_right _ (by simp [fnM])) (List.mem_append_right _ (by simp [fa])) (by decide +kernel) rfl rfl (fun _ _ _ _ _ _ us hl => match us, hl with | [_], _ => rfl) e__law_size
    · exact defok_of (N := n__law_ratio) (ps := ["_law_a"]) (st := top 26) X G c (List.mem_append_right _ (by simp [fnM])) (List.mem_append_right _ (by simp [fa])) (by decide +kernel) rfl rfl (fun _ _ _ _ _ _ us hl => match us, hl with | [_], _ => rfl) e__law_ratio
    · exact defok_of (N := n__law_told) (ps := ["_law_value"]) (st := top 27) X G c (List.mem_append_right _ (by simp [fnM])) (List.mem_append_right _ (by simp [fa])) (by decide +kernel) rfl rfl (fun _ _ _ _ _ _ us hl => match us, hl with | [_], _ => rfl) e__law_told
    · exact defok_of (N := n__law_number) (ps := ["_law_stream_here"]) (st := top 28) X G c (List.mem_append_right _ (by simp [fnM])) (List.mem_append_right _ (by simp [fa])) (by decide +kernel) rfl rfl (fun _ _ _ _ _ _ us hl => match us, hl with | [_], _ => rfl) e__law_number
    · exact defok_of (N := n__law_some) (ps := ["_law_stream_here"]) (st := top 29) X G c (List.mem_append_right _ (by simp [fnM])) (List.mem_append_right _ (by simp [fa])) (by decide +kernel) rfl rfl (fun _ _ _ _ _ _ us hl => match us, hl with | [_], _ => rfl) e__law_some
    · exact defok_of (N := n__law_move) (ps := ["_law_stream_here"]) (st := top 30) X G c (List.mem_append_right _ (by simp [fnM])) (List.mem_append_right _ (by simp [fa])) (by decide +kernel) rfl rfl (fun _ _ _ _ _ _ us hl => match us, hl with | [_], _ => rfl) e__law_move
    · exact defok_of (N := n__law_made) (ps := ["_law_rows"]) (st := top 31) X G c (List.mem_append_right _ (by simp [fnM])) (List.mem_append_right _ (by simp [fa])) (by decide +kernel) rfl rfl (fun _ _ _ _ _ _ us hl => match us, hl with | [_], _ => rfl) e__law_made
    · exact defok_of (N := n__law_is_move) (ps := ["_law_value"]) (st := top 32) X G c (List.mem_append_right _ (by simp [fnM])) (List.mem_append_right _ (by simp [fa])) (by decide +kernel) rfl rfl (fun _ _ _ _ _ _ us hl => match us, hl with | [_], _ => rfl) e__law_is_move
    · exact defok_of (N := n__law_hurt) (ps := ["_law_stream_here", "_law_value"]) (st := top 33) X G c (List.mem_append_right _ (by simp [fnM])) (List.mem_append_right _ (by simp [fa])) (by decide +kernel) rfl rfl (fun _ _ _ _ _ _ us hl => match us, hl with | [_, _], _ => rfl) e__law_hurt
  intro f md hf
  exact key (f, md) (mem_look hf)
theorem facts {f : Addr} (X : K.In h) (G : h.Ns mainGlobals mg) (hfa : mg ("law" : Str) = some (.ref f)) (c : He.SaysD fa' fn' K) (ex : exQ K = true) (hl : LawOk2 Γ 7 d_pre d_check_move "BadMove") :
    ∃ fd : FuncData, (∀ (s : Shared) (v : Value), BindsTo s fd ⟨[v], []⟩ [("_law_script", v)]) ∧ ∀ base : Heap, K.In base → base.Ns mainGlobals mg → FnOk P w K mg base CX0 (BASE + 8 + 1) f fd ["_law_script"] (spLaw K) := by
  obtain ⟨ex, exx⟩ := Bool.and_eq_true_iff.mp (show (exR K && exX K) = true from ex)
  obtain ⟨fd, F⟩ := says_def c (d := dMod "law" (top 34)) (List.mem_append_right _ (by simp [fnM]))
  obtain ⟨fd2, F2⟩ := says_def c (d := dMod "check_move" (top 16)) (List.mem_append_right _ (by simp [fnM]))
  have e := hfa.symm.trans (He.glo_ok X G (says_fact c (f := .glo "law") (List.mem_append_right _ (by simp [fa]))))
  cases e
  have b := FunD.bindsA (ps := ["_law_script"]) F fun _ _ _ _ _ _ us hl => match us, hl with | [_], _ => rfl
  have b2 := FunD.bindsN (ps := ["value"]) F2 fun _ _ _ _ _ _ us hl => match us, hl with | [_], _ => rfl
  have gl : ∀ x : Str, He.Fa.glo x ∈ fa → mg x = some (.ref (He.ga K x)) := fun x hx => He.glo_ok X G (says_fact c (List.mem_append_right _ hx))
  have xok : ∀ x : String, He.Fa.exc (Str.ofString x) ∈ fa → He.Fa.glo (Str.ofString x) ∈ fa → XcOk K mg (fun c => He.ga K (Str.ofString c)) x := fun x h1 h2 => by
    obtain ⟨a1, a2, a3, a4⟩ := He.exc_ok (says_fact c (List.mem_append_right _ h1))
    exact ⟨a1, a2, a3, a4, gl _ h2⟩
  have xc : ∀ x ∈ ["BadMove", "BadSheet"], XcOk K mg (fun c => He.ga K (Str.ofString c)) x := by
    intro x hx
    simp only [List.mem_cons, List.not_mem_nil, or_false] at hx
    rcases hx with rfl | rfl
    · exact xok _ (by simp [fa]) (by simp [fa])
    · exact xok _ (by simp [fa]) (by simp [fa])
  unfold exX at exx
  simp only [Bool.and_eq_true, decide_eq_true_eq] at exx
  obtain ⟨⟨⟨x1, x2⟩, x3, x4⟩, ⟨⟨x5, x6⟩, x7, x8⟩, ⟨⟨y1, y2⟩, y3, y4⟩, ⟨y5, y6⟩, y7⟩ := exx
  have xt : XcT K mg (He.ga K (Str.ofString "BadMove")) tn :=
    { c := ⟨x1, x2, x3, x4, x5, x6, x7, x8⟩, bad := ⟨_, gl _ (by simp [fa, tn]), y1⟩, oth := ⟨_, gl _ (by simp [fa, tn]), y2⟩, zero := ⟨_, gl _ (by simp [fa]), y3⟩, show_ := ⟨_, gl _ (by simp [fa]), y4⟩, fault := ⟨_, gl _ (by simp [fa]), y5⟩, call := ⟨_, gl _ (by simp [fa]), y6⟩,
      ve := y7, vf := He.free_ok X G (says_fact c (f := .free "ValueError") (List.mem_append_right _ (by simp [fa]))), te := ⟨_, gl _ (by simp [fa]), He.exm_ok (says_fact c (f := .exm (Str.ofString "BadMove") "TraproomError" true) (List.mem_append_right _ (by simp [fa])))⟩ }
  exact ⟨fd, fun s v => b s [v] rfl, fun base kb gb => law_fn2 (cv := fun c => He.ga K (Str.ofString c)) (n := tn) (N := n_law) (es1 := (defBody (top 34)).take 4) (es2 := (defBody (top 34)).drop 4) (wd_all (fun k hk => wd_of (rt X G c ex) k hk) (defs X G c) 7) (wd_all (fun k hk => wd_of (rt X G c ex) k hk) (defs X G c) (7 + 1)) F (scQ_ok (by decide +kernel)) rfl (List.take_append_drop _ _).symm e_law e_tail e_tl xt xc
    (N2 := n_check_move) (ps2 := ["value"]) F2 (scQ_ok (by decide +kernel)) rfl rfl rfl e_check_move (gl _ (by simp [fa, tn])) b2 hl⟩
end

end K20
namespace K20
open Mp
def rowM : D → Option (Rat × Rat)
  | .tup [.rat t, .rat a] => if 0 < t then some (t, a) else none
  | _ => none
def sumM : List D → Rat → Option Rat
  | [], v => some v
  | d :: ds, v => match rowM d with
    | some (t, a) => sumM ds (v + t * a)
    | none => none
def isZ : Option Rat → Bool
  | some v => v == 0
  | none => false
def mvB : D → Bool
  | .tup ds => (decide (1 ≤ ds.length) && decide (ds.length ≤ 6)) && isZ (sumM ds 0)
  | _ => false
theorem mvB_tup {ds : List D} : mvB (.tup ds) = ((decide (1 ≤ ds.length) && decide (ds.length ≤ 6)) && isZ (sumM ds 0)) := rfl
theorem gvq {q : Rat} : (D.rat q).gv = Zb 300 300 q := by rw [D.gv]
theorem gv_tup {ds : List D} : (D.tup ds).gv ↔ ∀ x ∈ ds, x.gv := by rw [D.gv, gvs_all]
theorem num_le {q : Rat} : decide (q.num ≤ 0) = !decide (0 < q) := by
  by_cases h : 0 < q
  · rw [decide_eq_true h, decide_eq_false]
    · rfl
    · intro z
      have h1 := Rat.num_nonneg.mpr (Rat.le_of_lt h)
      have h2 : q.num = 0 := by omega
      rw [Rat.num_eq_zero.mp h2] at h
      exact absurd h (by decide)
  · rw [decide_eq_false h, decide_eq_true]
    · rfl
    · refine Int.not_lt.mp fun z => h ?_
      have h1 := Rat.num_nonneg.mp (Int.le_of_lt z)
      refine Rat.not_le.mp fun y => ?_
      have h2 := Rat.le_antisymm y h1
      rw [h2] at z
      exact absurd z (by decide)
theorem num_eq {q : Rat} : (q.num == 0) = (q == 0) := by
  by_cases h : q = 0
  · rw [h]; rfl
  · have : q.num ≠ 0 := fun z => h (Rat.num_eq_zero.mp z)
    rw [beq_eq_false_iff_ne.mpr h, beq_eq_false_iff_ne.mpr this]
theorem num_neg {a : Rat} : decide (a.num < 0) = decide (a < 0) := decide_eq_decide.mpr num_neg'
section
variable {k : Nat} {s : Strm} {Q : D → Strm → Prop}
theorem V_num {d : D} (g : d.gv) (q : Q (.bl (isRat d)) s) : V (callF Γ (k + 1) "is_number" [d]) s Q := by
  refine V_call (md := d_is_number) rfl rfl ?_
  simp only [d_is_number]
  cases d <;> first | (exact g.elim) | ((((try simp only [ID, E1, R1, N2, V_cons, bw, optI, tru, notB, V_bind, V_pure, V_guard, V_ite, V_some, V_getS, V_setS, getE, asgT, setE, setsE, kilE, wipeE, D.strips, D.strip, isNop, B1, S1, P1, List.map, List.append, List.replicate, List.set_cons_zero, List.set_cons_succ, List.getElem?_cons_zero, List.getElem?_cons_succ, List.cons_append, List.nil_append, Tg.slots, if_true, Bool.false_eq_true, if_false, reduceIte, List.length_cons, List.length_nil]); (try simp only [ne_eq, reduceCtorEq, not_false_eq_true, not_true_eq_false, true_or, or_true, false_or, or_false, true_and, and_true, isPath, G1, P1, Bool.and_true, Bool.true_and, Bool.and_self, Bool.not_true, Bool.not_false])); (try rw [(N1 _).1]); ((try simp only [ID, E1, R1, N2, V_cons, bw, optI, tru, notB, V_bind, V_pure, V_guard, V_ite, V_some, V_getS, V_setS, getE, asgT, setE, setsE, kilE, wipeE, D.strips, D.strip, isNop, B1, S1, P1, List.map, List.append, List.replicate, List.set_cons_zero, List.set_cons_succ, List.getElem?_cons_zero, List.getElem?_cons_succ, List.cons_append, List.nil_append, Tg.slots, if_true, Bool.false_eq_true, if_false, reduceIte, List.length_cons, List.length_nil]); (try simp only [ne_eq, reduceCtorEq, not_false_eq_true, not_true_eq_false, true_or, or_true, false_or, or_false, true_and, and_true, isPath, G1, P1, Bool.and_true, Bool.true_and, Bool.and_self, Bool.not_true, Bool.not_false]))); exact q)
theorem V_isneg {a : Rat} (q : Q (.bl (decide (a < 0))) s) : V (callF Γ (k + 1) "is_negative" [.rat a]) s Q := by
  refine V_call (md := d_is_negative) rfl rfl ?_
  simp only [d_is_negative]
  (((try simp only [E1, R1, N2, V_cons, bw, optI, tru, notB, V_bind, V_pure, V_guard, V_ite, V_some, V_getS, V_setS, getE, asgT, setE, setsE, kilE, wipeE, D.strips, D.strip, isNop, B1, S1, P1, List.map, List.append, List.replicate, List.set_cons_zero, List.set_cons_succ, List.getElem?_cons_zero, List.getElem?_cons_succ, List.cons_append, List.nil_append, Tg.slots, if_true, Bool.false_eq_true, if_false, reduceIte, List.length_cons, List.length_nil]); (try simp only [ne_eq, reduceCtorEq, not_false_eq_true, not_true_eq_false, true_or, or_true, false_or, or_false, true_and, and_true, isPath, G1, P1, Bool.and_true, Bool.true_and, Bool.and_self, Bool.not_true, Bool.not_false])); (try rw [(N1 _).1]); ((try simp only [E1, R1, N2, V_cons, bw, optI, tru, notB, V_bind, V_pure, V_guard, V_ite, V_some, V_getS, V_setS, getE, asgT, setE, setsE, kilE, wipeE, D.strips, D.strip, isNop, B1, S1, P1, List.map, List.append, List.replicate, List.set_cons_zero, List.set_cons_succ, List.getElem?_cons_zero, List.getElem?_cons_succ, List.cons_append, List.nil_append, Tg.slots, if_true, Bool.false_eq_true, if_false, reduceIte, List.length_cons, List.length_nil]); (try simp only [ne_eq, reduceCtorEq, not_false_eq_true, not_true_eq_false, true_or, or_true, false_or, or_false, true_and, and_true, isPath, G1, P1, Bool.and_true, Bool.true_and, Bool.and_self, Bool.not_true, Bool.not_false])))
  rw [num_neg]
  exact q
theorem V_iszero {a : Rat} (q : Q (.bl (a == 0)) s) : V (callF Γ (k + 1) "is_zero" [.rat a]) s Q := by
  refine V_call (md := d_is_zero) rfl rfl ?_
  simp only [d_is_zero]
  (((try simp only [E1, R1, N2, V_cons, bw, optI, tru, notB, V_bind, V_pure, V_guard, V_ite, V_some, V_getS, V_setS, getE, asgT, setE, setsE, kilE, wipeE, D.strips, D.strip, isNop, B1, S1, P1, List.map, List.append, List.replicate, List.set_cons_zero, List.set_cons_succ, List.getElem?_cons_zero, List.getElem?_cons_succ, List.cons_append, List.nil_append, Tg.slots, if_true, Bool.false_eq_true, if_false, reduceIte, List.length_cons, List.length_nil]); (try simp only [ne_eq, reduceCtorEq, not_false_eq_true, not_true_eq_false, true_or, or_true, false_or, or_false, true_and, and_true, isPath, G1, P1, Bool.and_true, Bool.true_and, Bool.and_self, Bool.not_true, Bool.not_false])); (try rw [(N1 _).1]); ((try simp only [E1, R1, N2, V_cons, bw, optI, tru, notB, V_bind, V_pure, V_guard, V_ite, V_some, V_getS, V_setS, getE, asgT, setE, setsE, kilE, wipeE, D.strips, D.strip, isNop, B1, S1, P1, List.map, List.append, List.replicate, List.set_cons_zero, List.set_cons_succ, List.getElem?_cons_zero, List.getElem?_cons_succ, List.cons_append, List.nil_append, Tg.slots, if_true, Bool.false_eq_true, if_false, reduceIte, List.length_cons, List.length_nil]); (try simp only [ne_eq, reduceCtorEq, not_false_eq_true, not_true_eq_false, true_or, or_true, false_or, or_false, true_and, and_true, isPath, G1, P1, Bool.and_true, Bool.true_and, Bool.and_self, Bool.not_true, Bool.not_false])))
  rw [num_eq]
  exact q
end
theorem not2 {xs : List D} (hl : ¬ xs.length = 2) : rowM (.tup xs) = none := by
  unfold rowM
  split
  · rename_i e
    cases e
    exact absurd rfl hl
  · rfl
/-- one row, as the law looks at it -/
theorem rowA {s : Strm} {R : Fl → Strm → Prop} {row : D} {ds : List D} {v : Rat} {n : Nat} {kk : Nat} (g : row.gv) (no : row.noOwn = true) (hv : Zb n n v) (hn : n ≤ 3700)
    (h : match rowM row with | some (t, a) => R (.nx [some (.tup ds), some (pr (v + t * a)), some row]) s | none => R (.ret (.bl false)) s) :
    V (runs (callF Γ (kk + 2)) [some (.tup ds), some (pr v), some row] (match d__law_is_move.body with | .cons _ (.cons _ (.cons (.loop _ _ b _) _)) => b | _ => .nil)) s R := by
  simp only [d__law_is_move]
  have no' : rowM row = none → R (.ret (.bl false)) s := fun z => by rw [z] at h; exact h
  cases row with
  | strm => exact g.elim
  | scr _ => exact g.elim
  | tup xs =>
    rw [D.gv] at g
    rw [D.noOwn] at no
    by_cases hl : xs.length = 2
    · obtain ⟨a, b, rfl⟩ : ∃ a b, xs = [a, b] := by
        match xs, hl with
        | [a, b], _ => exact ⟨a, b, rfl⟩
      rw [gvs_all] at g
      have ga := g a (by simp)
      have gb := g b (by simp)
      have na : a.noOwn = true := noOwns_all.mp no a (by simp)
      have nb : b.noOwn = true := noOwns_all.mp no b (by simp)
      have no3 : ((a.noOwn && b.noOwn) = true) := by rw [na, nb]; rfl
      (((try simp only [ID, E1, R1, N2, V_cons, bw, optI, tru, notB, V_bind, V_pure, V_guard, V_ite, V_some, V_getS, V_setS, getE, asgT, setE, setsE, kilE, wipeE, D.strips, D.strip, isNop, B1, S1, P1, List.map, List.append, List.replicate, List.set_cons_zero, List.set_cons_succ, List.getElem?_cons_zero, List.getElem?_cons_succ, List.cons_append, List.nil_append, Tg.slots, if_true, Bool.false_eq_true, if_false, reduceIte, List.length_cons, List.length_nil]); (try simp only [ne_eq, reduceCtorEq, not_false_eq_true, not_true_eq_false, true_or, or_true, false_or, or_false, true_and, and_true, isPath, G1, P1, Bool.and_true, Bool.true_and, Bool.and_self, Bool.not_true, Bool.not_false])); (try rw [(N1 _).1]); ((try simp only [ID, E1, R1, N2, V_cons, bw, optI, tru, notB, V_bind, V_pure, V_guard, V_ite, V_some, V_getS, V_setS, getE, asgT, setE, setsE, kilE, wipeE, D.strips, D.strip, isNop, B1, S1, P1, List.map, List.append, List.replicate, List.set_cons_zero, List.set_cons_succ, List.getElem?_cons_zero, List.getElem?_cons_succ, List.cons_append, List.nil_append, Tg.slots, if_true, Bool.false_eq_true, if_false, reduceIte, List.length_cons, List.length_nil]); (try simp only [ne_eq, reduceCtorEq, not_false_eq_true, not_true_eq_false, true_or, or_true, false_or, or_false, true_and, and_true, isPath, G1, P1, Bool.and_true, Bool.true_and, Bool.and_self, Bool.not_true, Bool.not_false])))
      (try simp only [if_false])
      refine ⟨no3, ?_⟩
      rw [if_neg (by decide)]
      cases a with
      | rat t =>
        (((try simp only [ID, E1, R1, N2, V_cons, bw, optI, tru, notB, V_bind, V_pure, V_guard, V_ite, V_some, V_getS, V_setS, getE, asgT, setE, setsE, kilE, wipeE, D.strips, D.strip, isNop, B1, S1, P1, List.map, List.append, List.replicate, List.set_cons_zero, List.set_cons_succ, List.getElem?_cons_zero, List.getElem?_cons_succ, List.cons_append, List.nil_append, Tg.slots, if_true, Bool.false_eq_true, if_false, reduceIte, List.length_cons, List.length_nil]); (try simp only [ne_eq, reduceCtorEq, not_false_eq_true, not_true_eq_false, true_or, or_true, false_or, or_false, true_and, and_true, isPath, G1, P1, Bool.and_true, Bool.true_and, Bool.and_self, Bool.not_true, Bool.not_false])); (try rw [(N1 _).1]); ((try simp only [ID, E1, R1, N2, V_cons, bw, optI, tru, notB, V_bind, V_pure, V_guard, V_ite, V_some, V_getS, V_setS, getE, asgT, setE, setsE, kilE, wipeE, D.strips, D.strip, isNop, B1, S1, P1, List.map, List.append, List.replicate, List.set_cons_zero, List.set_cons_succ, List.getElem?_cons_zero, List.getElem?_cons_succ, List.cons_append, List.nil_append, Tg.slots, if_true, Bool.false_eq_true, if_false, reduceIte, List.length_cons, List.length_nil]); (try simp only [ne_eq, reduceCtorEq, not_false_eq_true, not_true_eq_false, true_or, or_true, false_or, or_false, true_and, and_true, isPath, G1, P1, Bool.and_true, Bool.true_and, Bool.and_self, Bool.not_true, Bool.not_false])))
        cases b with
        | rat c =>
          (((try simp only [ID, E1, R1, N2, V_cons, bw, optI, tru, notB, V_bind, V_pure, V_guard, V_ite, V_some, V_getS, V_setS, getE, asgT, setE, setsE, kilE, wipeE, D.strips, D.strip, isNop, B1, S1, P1, List.map, List.append, List.replicate, List.set_cons_zero, List.set_cons_succ, List.getElem?_cons_zero, List.getElem?_cons_succ, List.cons_append, List.nil_append, Tg.slots, if_true, Bool.false_eq_true, if_false, reduceIte, List.length_cons, List.length_nil]); (try simp only [ne_eq, reduceCtorEq, not_false_eq_true, not_true_eq_false, true_or, or_true, false_or, or_false, true_and, and_true, isPath, G1, P1, Bool.and_true, Bool.true_and, Bool.and_self, Bool.not_true, Bool.not_false])); (try rw [(N1 _).1]); ((try simp only [ID, E1, R1, N2, V_cons, bw, optI, tru, notB, V_bind, V_pure, V_guard, V_ite, V_some, V_getS, V_setS, getE, asgT, setE, setsE, kilE, wipeE, D.strips, D.strip, isNop, B1, S1, P1, List.map, List.append, List.replicate, List.set_cons_zero, List.set_cons_succ, List.getElem?_cons_zero, List.getElem?_cons_succ, List.cons_append, List.nil_append, Tg.slots, if_true, Bool.false_eq_true, if_false, reduceIte, List.length_cons, List.length_nil]); (try simp only [ne_eq, reduceCtorEq, not_false_eq_true, not_true_eq_false, true_or, or_true, false_or, or_false, true_and, and_true, isPath, G1, P1, Bool.and_true, Bool.true_and, Bool.and_self, Bool.not_true, Bool.not_false])))
          rw [gvq] at ga gb
          rw [num_le]
          by_cases c3 : 0 < t
          · rw [if_neg (by simpa using c3)]
            have er : rowM (.tup [.rat t, .rat c]) = some (t, c) := if_pos c3
            rw [er] at h
            have ha : Sm t := ga.sm (by decide) (by decide)
            have hb : Sm c := gb.sm (by decide) (by decide)
            have hp : Sm (t * c) := (ga.mul gb).sm (by decide) (by decide)
            have hs : Sm v := hv.sm (by omega) (by omega)
            (((try simp only [ID, E1, R1, N2, V_cons, bw, optI, tru, notB, V_bind, V_pure, V_guard, V_ite, V_some, V_getS, V_setS, getE, asgT, setE, setsE, kilE, wipeE, D.strips, D.strip, isNop, B1, S1, P1, List.map, List.append, List.replicate, List.set_cons_zero, List.set_cons_succ, List.getElem?_cons_zero, List.getElem?_cons_succ, List.cons_append, List.nil_append, Tg.slots, if_true, Bool.false_eq_true, if_false, reduceIte, List.length_cons, List.length_nil]); (try simp only [ne_eq, reduceCtorEq, not_false_eq_true, not_true_eq_false, true_or, or_true, false_or, or_false, true_and, and_true, isPath, G1, P1, Bool.and_true, Bool.true_and, Bool.and_self, Bool.not_true, Bool.not_false])); (try rw [(N1 _).1]); ((try simp only [ID, E1, R1, N2, V_cons, bw, optI, tru, notB, V_bind, V_pure, V_guard, V_ite, V_some, V_getS, V_setS, getE, asgT, setE, setsE, kilE, wipeE, D.strips, D.strip, isNop, B1, S1, P1, List.map, List.append, List.replicate, List.set_cons_zero, List.set_cons_succ, List.getElem?_cons_zero, List.getElem?_cons_succ, List.cons_append, List.nil_append, Tg.slots, if_true, Bool.false_eq_true, if_false, reduceIte, List.length_cons, List.length_nil]); (try simp only [ne_eq, reduceCtorEq, not_false_eq_true, not_true_eq_false, true_or, or_true, false_or, or_false, true_and, and_true, isPath, G1, P1, Bool.and_true, Bool.true_and, Bool.and_self, Bool.not_true, Bool.not_false])))
            refine V_told (k := kk + 1) rfl ?_
            ((try simp only [E1, R1, N2, V_cons, bw, optI, tru, notB, V_bind, V_pure, V_guard, V_ite, V_some, V_getS, V_setS, getE, asgT, setE, setsE, kilE, wipeE, D.strips, D.strip, isNop, B1, S1, P1, List.map, List.append, List.replicate, List.set_cons_zero, List.set_cons_succ, List.getElem?_cons_zero, List.getElem?_cons_succ, List.cons_append, List.nil_append, Tg.slots, if_true, Bool.false_eq_true, if_false, reduceIte, List.length_cons, List.length_nil]); (try simp only [ne_eq, reduceCtorEq, not_false_eq_true, not_true_eq_false, true_or, or_true, false_or, or_false, true_and, and_true, isPath, G1, P1, Bool.and_true, Bool.true_and, Bool.and_self, Bool.not_true, Bool.not_false]))
            refine V_told (k := kk + 1) rfl ?_
            ((try simp only [E1, R1, N2, V_cons, bw, optI, tru, notB, V_bind, V_pure, V_guard, V_ite, V_some, V_getS, V_setS, getE, asgT, setE, setsE, kilE, wipeE, D.strips, D.strip, isNop, B1, S1, P1, List.map, List.append, List.replicate, List.set_cons_zero, List.set_cons_succ, List.getElem?_cons_zero, List.getElem?_cons_succ, List.cons_append, List.nil_append, Tg.slots, if_true, Bool.false_eq_true, if_false, reduceIte, List.length_cons, List.length_nil]); (try simp only [ne_eq, reduceCtorEq, not_false_eq_true, not_true_eq_false, true_or, or_true, false_or, or_false, true_and, and_true, isPath, G1, P1, Bool.and_true, Bool.true_and, Bool.and_self, Bool.not_true, Bool.not_false]))
            refine V_times (k := kk) rfl rfl ha hb ?_
            ((try simp only [E1, R1, N2, V_cons, bw, optI, tru, notB, V_bind, V_pure, V_guard, V_ite, V_some, V_getS, V_setS, getE, asgT, setE, setsE, kilE, wipeE, D.strips, D.strip, isNop, B1, S1, P1, List.map, List.append, List.replicate, List.set_cons_zero, List.set_cons_succ, List.getElem?_cons_zero, List.getElem?_cons_succ, List.cons_append, List.nil_append, Tg.slots, if_true, Bool.false_eq_true, if_false, reduceIte, List.length_cons, List.length_nil]); (try simp only [ne_eq, reduceCtorEq, not_false_eq_true, not_true_eq_false, true_or, or_true, false_or, or_false, true_and, and_true, isPath, G1, P1, Bool.and_true, Bool.true_and, Bool.and_self, Bool.not_true, Bool.not_false]))
            refine V_sum (k := kk) rfl rfl hs hp ?_
            (((try simp only [ID, E1, R1, N2, V_cons, bw, optI, tru, notB, V_bind, V_pure, V_guard, V_ite, V_some, V_getS, V_setS, getE, asgT, setE, setsE, kilE, wipeE, D.strips, D.strip, isNop, B1, S1, P1, List.map, List.append, List.replicate, List.set_cons_zero, List.set_cons_succ, List.getElem?_cons_zero, List.getElem?_cons_succ, List.cons_append, List.nil_append, Tg.slots, if_true, Bool.false_eq_true, if_false, reduceIte, List.length_cons, List.length_nil]); (try simp only [ne_eq, reduceCtorEq, not_false_eq_true, not_true_eq_false, true_or, or_true, false_or, or_false, true_and, and_true, isPath, G1, P1, Bool.and_true, Bool.true_and, Bool.and_self, Bool.not_true, Bool.not_false])); (try rw [(N1 _).1]); ((try simp only [ID, E1, R1, N2, V_cons, bw, optI, tru, notB, V_bind, V_pure, V_guard, V_ite, V_some, V_getS, V_setS, getE, asgT, setE, setsE, kilE, wipeE, D.strips, D.strip, isNop, B1, S1, P1, List.map, List.append, List.replicate, List.set_cons_zero, List.set_cons_succ, List.getElem?_cons_zero, List.getElem?_cons_succ, List.cons_append, List.nil_append, Tg.slots, if_true, Bool.false_eq_true, if_false, reduceIte, List.length_cons, List.length_nil]); (try simp only [ne_eq, reduceCtorEq, not_false_eq_true, not_true_eq_false, true_or, or_true, false_or, or_false, true_and, and_true, isPath, G1, P1, Bool.and_true, Bool.true_and, Bool.and_self, Bool.not_true, Bool.not_false])))
            exact h
          · rw [if_pos (by simpa using c3)]
            exact no' (by simp [rowM, c3])
        | _ => first | (exact gb.elim) | ((((try simp only [ID, E1, R1, N2, V_cons, bw, optI, tru, notB, V_bind, V_pure, V_guard, V_ite, V_some, V_getS, V_setS, getE, asgT, setE, setsE, kilE, wipeE, D.strips, D.strip, isNop, B1, S1, P1, List.map, List.append, List.replicate, List.set_cons_zero, List.set_cons_succ, List.getElem?_cons_zero, List.getElem?_cons_succ, List.cons_append, List.nil_append, Tg.slots, if_true, Bool.false_eq_true, if_false, reduceIte, List.length_cons, List.length_nil]); (try simp only [ne_eq, reduceCtorEq, not_false_eq_true, not_true_eq_false, true_or, or_true, false_or, or_false, true_and, and_true, isPath, G1, P1, Bool.and_true, Bool.true_and, Bool.and_self, Bool.not_true, Bool.not_false])); (try rw [(N1 _).1]); ((try simp only [ID, E1, R1, N2, V_cons, bw, optI, tru, notB, V_bind, V_pure, V_guard, V_ite, V_some, V_getS, V_setS, getE, asgT, setE, setsE, kilE, wipeE, D.strips, D.strip, isNop, B1, S1, P1, List.map, List.append, List.replicate, List.set_cons_zero, List.set_cons_succ, List.getElem?_cons_zero, List.getElem?_cons_succ, List.cons_append, List.nil_append, Tg.slots, if_true, Bool.false_eq_true, if_false, reduceIte, List.length_cons, List.length_nil]); (try simp only [ne_eq, reduceCtorEq, not_false_eq_true, not_true_eq_false, true_or, or_true, false_or, or_false, true_and, and_true, isPath, G1, P1, Bool.and_true, Bool.true_and, Bool.and_self, Bool.not_true, Bool.not_false]))); exact no' (by simp [rowM]))
      | _ => first | (exact ga.elim) | ((((try simp only [ID, E1, R1, N2, V_cons, bw, optI, tru, notB, V_bind, V_pure, V_guard, V_ite, V_some, V_getS, V_setS, getE, asgT, setE, setsE, kilE, wipeE, D.strips, D.strip, isNop, B1, S1, P1, List.map, List.append, List.replicate, List.set_cons_zero, List.set_cons_succ, List.getElem?_cons_zero, List.getElem?_cons_succ, List.cons_append, List.nil_append, Tg.slots, if_true, Bool.false_eq_true, if_false, reduceIte, List.length_cons, List.length_nil]); (try simp only [ne_eq, reduceCtorEq, not_false_eq_true, not_true_eq_false, true_or, or_true, false_or, or_false, true_and, and_true, isPath, G1, P1, Bool.and_true, Bool.true_and, Bool.and_self, Bool.not_true, Bool.not_false])); (try rw [(N1 _).1]); ((try simp only [ID, E1, R1, N2, V_cons, bw, optI, tru, notB, V_bind, V_pure, V_guard, V_ite, V_some, V_getS, V_setS, getE, asgT, setE, setsE, kilE, wipeE, D.strips, D.strip, isNop, B1, S1, P1, List.map, List.append, List.replicate, List.set_cons_zero, List.set_cons_succ, List.getElem?_cons_zero, List.getElem?_cons_succ, List.cons_append, List.nil_append, Tg.slots, if_true, Bool.false_eq_true, if_false, reduceIte, List.length_cons, List.length_nil]); (try simp only [ne_eq, reduceCtorEq, not_false_eq_true, not_true_eq_false, true_or, or_true, false_or, or_false, true_and, and_true, isPath, G1, P1, Bool.and_true, Bool.true_and, Bool.and_self, Bool.not_true, Bool.not_false]))); exact no' (by simp [rowM]))
    · (((try simp only [ID, E1, R1, N2, V_cons, bw, optI, tru, notB, V_bind, V_pure, V_guard, V_ite, V_some, V_getS, V_setS, getE, asgT, setE, setsE, kilE, wipeE, D.strips, D.strip, isNop, B1, S1, P1, List.map, List.append, List.replicate, List.set_cons_zero, List.set_cons_succ, List.getElem?_cons_zero, List.getElem?_cons_succ, List.cons_append, List.nil_append, Tg.slots, if_true, Bool.false_eq_true, if_false, reduceIte, List.length_cons, List.length_nil]); (try simp only [ne_eq, reduceCtorEq, not_false_eq_true, not_true_eq_false, true_or, or_true, false_or, or_false, true_and, and_true, isPath, G1, P1, Bool.and_true, Bool.true_and, Bool.and_self, Bool.not_true, Bool.not_false])); (try rw [(N1 _).1]); ((try simp only [ID, E1, R1, N2, V_cons, bw, optI, tru, notB, V_bind, V_pure, V_guard, V_ite, V_some, V_getS, V_setS, getE, asgT, setE, setsE, kilE, wipeE, D.strips, D.strip, isNop, B1, S1, P1, List.map, List.append, List.replicate, List.set_cons_zero, List.set_cons_succ, List.getElem?_cons_zero, List.getElem?_cons_succ, List.cons_append, List.nil_append, Tg.slots, if_true, Bool.false_eq_true, if_false, reduceIte, List.length_cons, List.length_nil]); (try simp only [ne_eq, reduceCtorEq, not_false_eq_true, not_true_eq_false, true_or, or_true, false_or, or_false, true_and, and_true, isPath, G1, P1, Bool.and_true, Bool.true_and, Bool.and_self, Bool.not_true, Bool.not_false])))
      (try simp only [if_false])
      refine ⟨no, ?_⟩
      rw [if_pos (by simp; omega)]
      exact no' (not2 hl)
  | _ => (((try simp only [ID, E1, R1, N2, V_cons, bw, optI, tru, notB, V_bind, V_pure, V_guard, V_ite, V_some, V_getS, V_setS, getE, asgT, setE, setsE, kilE, wipeE, D.strips, D.strip, isNop, B1, S1, P1, List.map, List.append, List.replicate, List.set_cons_zero, List.set_cons_succ, List.getElem?_cons_zero, List.getElem?_cons_succ, List.cons_append, List.nil_append, Tg.slots, if_true, Bool.false_eq_true, if_false, reduceIte, List.length_cons, List.length_nil]); (try simp only [ne_eq, reduceCtorEq, not_false_eq_true, not_true_eq_false, true_or, or_true, false_or, or_false, true_and, and_true, isPath, G1, P1, Bool.and_true, Bool.true_and, Bool.and_self, Bool.not_true, Bool.not_false])); (try rw [(N1 _).1]); ((try simp only [ID, E1, R1, N2, V_cons, bw, optI, tru, notB, V_bind, V_pure, V_guard, V_ite, V_some, V_getS, V_setS, getE, asgT, setE, setsE, kilE, wipeE, D.strips, D.strip, isNop, B1, S1, P1, List.map, List.append, List.replicate, List.set_cons_zero, List.set_cons_succ, List.getElem?_cons_zero, List.getElem?_cons_succ, List.cons_append, List.nil_append, Tg.slots, if_true, Bool.false_eq_true, if_false, reduceIte, List.length_cons, List.length_nil]); (try simp only [ne_eq, reduceCtorEq, not_false_eq_true, not_true_eq_false, true_or, or_true, false_or, or_false, true_and, and_true, isPath, G1, P1, Bool.and_true, Bool.true_and, Bool.and_self, Bool.not_true, Bool.not_false]))); exact no' (by simp [rowM])
/-- one row, as the program looks at it -/
theorem rowC {s : Strm} {E : String → Strm → Prop} {R : Fl → Strm → Prop} {row w : D} {v : Rat} {n : Nat} {kk : Nat} (g : row.gv) (no : row.noOwn = true) (hv : Zb n n v) (hn : n ≤ 3700)
    (h : match rowM row with | some (t, a) => R (.nx [some w, some (.rat (v + t * a)), some row]) s | none => E "BadMove" s) :
    wpSs (callF Γ (kk + 1)) E (match d_check_move.body with | .cons _ (.cons _ (.cons (.loop _ _ b _) _)) => b | _ => .nil) [some w, some (.rat v), some row] s R := by
  simp only [d_check_move]
  have no' : rowM row = none → E "BadMove" s := fun z => by rw [z] at h; exact h
  have out : rowM row = none → ∀ (as : MSs) (e : En) (Q : Fl → Strm → Prop), wpSs (callF Γ (kk + 1)) E (.cons (.raise "BadMove") as) e s Q := fun z as e Q => wp_raise (no' z)
  refine wp_cons (wp_ite ?_)
  cases row with
  | strm => exact g.elim
  | scr _ => exact g.elim
  | tup xs =>
    rw [D.gv] at g
    rw [D.noOwn] at no
    by_cases hl : xs.length = 2
    · obtain ⟨a, b, rfl⟩ : ∃ a b, xs = [a, b] := by
        match xs, hl with
        | [a, b], _ => exact ⟨a, b, rfl⟩
      rw [gvs_all] at g
      have ga := g a (by simp)
      have gb := g b (by simp)
      have na : a.noOwn = true := noOwns_all.mp no a (by simp)
      have nb : b.noOwn = true := noOwns_all.mp no b (by simp)
      have no3 : ((a.noOwn && b.noOwn) = true) := by rw [na, nb]; rfl
      (((try simp only [ID, E1, R1, N2, V_cons, bw, optI, tru, notB, V_bind, V_pure, V_guard, V_ite, V_some, V_getS, V_setS, getE, asgT, setE, setsE, kilE, wipeE, D.strips, D.strip, isNop, B1, S1, P1, List.map, List.append, List.replicate, List.set_cons_zero, List.set_cons_succ, List.getElem?_cons_zero, List.getElem?_cons_succ, List.cons_append, List.nil_append, Tg.slots, if_true, Bool.false_eq_true, if_false, reduceIte, List.length_cons, List.length_nil]); (try simp only [ne_eq, reduceCtorEq, not_false_eq_true, not_true_eq_false, true_or, or_true, false_or, or_false, true_and, and_true, isPath, G1, P1, Bool.and_true, Bool.true_and, Bool.and_self, Bool.not_true, Bool.not_false])); (try rw [(N1 _).1]); ((try simp only [ID, E1, R1, N2, V_cons, bw, optI, tru, notB, V_bind, V_pure, V_guard, V_ite, V_some, V_getS, V_setS, getE, asgT, setE, setsE, kilE, wipeE, D.strips, D.strip, isNop, B1, S1, P1, List.map, List.append, List.replicate, List.set_cons_zero, List.set_cons_succ, List.getElem?_cons_zero, List.getElem?_cons_succ, List.cons_append, List.nil_append, Tg.slots, if_true, Bool.false_eq_true, if_false, reduceIte, List.length_cons, List.length_nil]); (try simp only [ne_eq, reduceCtorEq, not_false_eq_true, not_true_eq_false, true_or, or_true, false_or, or_false, true_and, and_true, isPath, G1, P1, Bool.and_true, Bool.true_and, Bool.and_self, Bool.not_true, Bool.not_false])))
      refine ⟨no3, ?_⟩
      rw [if_neg (by decide), strip_own na]
      refine V_num ga ?_
      (try refine ⟨.inl rfl, ?_⟩)
      (((try simp only [ID, E1, R1, N2, V_cons, bw, optI, tru, notB, V_bind, V_pure, V_guard, V_ite, V_some, V_getS, V_setS, getE, asgT, setE, setsE, kilE, wipeE, D.strips, D.strip, isNop, B1, S1, P1, List.map, List.append, List.replicate, List.set_cons_zero, List.set_cons_succ, List.getElem?_cons_zero, List.getElem?_cons_succ, List.cons_append, List.nil_append, Tg.slots, if_true, Bool.false_eq_true, if_false, reduceIte, List.length_cons, List.length_nil]); (try simp only [ne_eq, reduceCtorEq, not_false_eq_true, not_true_eq_false, true_or, or_true, false_or, or_false, true_and, and_true, isPath, G1, P1, Bool.and_true, Bool.true_and, Bool.and_self, Bool.not_true, Bool.not_false])); (try rw [(N1 _).1]); ((try simp only [ID, E1, R1, N2, V_cons, bw, optI, tru, notB, V_bind, V_pure, V_guard, V_ite, V_some, V_getS, V_setS, getE, asgT, setE, setsE, kilE, wipeE, D.strips, D.strip, isNop, B1, S1, P1, List.map, List.append, List.replicate, List.set_cons_zero, List.set_cons_succ, List.getElem?_cons_zero, List.getElem?_cons_succ, List.cons_append, List.nil_append, Tg.slots, if_true, Bool.false_eq_true, if_false, reduceIte, List.length_cons, List.length_nil]); (try simp only [ne_eq, reduceCtorEq, not_false_eq_true, not_true_eq_false, true_or, or_true, false_or, or_false, true_and, and_true, isPath, G1, P1, Bool.and_true, Bool.true_and, Bool.and_self, Bool.not_true, Bool.not_false])))
      cases a with
      | rat t =>
        (try simp only [isRat, Bool.not_true, if_false, Bool.false_eq_true])
        rw [strip_own nb]
        refine V_num gb ?_
        (try refine ⟨.inl rfl, ?_⟩)
        (((try simp only [ID, E1, R1, N2, V_cons, bw, optI, tru, notB, V_bind, V_pure, V_guard, V_ite, V_some, V_getS, V_setS, getE, asgT, setE, setsE, kilE, wipeE, D.strips, D.strip, isNop, B1, S1, P1, List.map, List.append, List.replicate, List.set_cons_zero, List.set_cons_succ, List.getElem?_cons_zero, List.getElem?_cons_succ, List.cons_append, List.nil_append, Tg.slots, if_true, Bool.false_eq_true, if_false, reduceIte, List.length_cons, List.length_nil]); (try simp only [ne_eq, reduceCtorEq, not_false_eq_true, not_true_eq_false, true_or, or_true, false_or, or_false, true_and, and_true, isPath, G1, P1, Bool.and_true, Bool.true_and, Bool.and_self, Bool.not_true, Bool.not_false])); (try rw [(N1 _).1]); ((try simp only [ID, E1, R1, N2, V_cons, bw, optI, tru, notB, V_bind, V_pure, V_guard, V_ite, V_some, V_getS, V_setS, getE, asgT, setE, setsE, kilE, wipeE, D.strips, D.strip, isNop, B1, S1, P1, List.map, List.append, List.replicate, List.set_cons_zero, List.set_cons_succ, List.getElem?_cons_zero, List.getElem?_cons_succ, List.cons_append, List.nil_append, Tg.slots, if_true, Bool.false_eq_true, if_false, reduceIte, List.length_cons, List.length_nil]); (try simp only [ne_eq, reduceCtorEq, not_false_eq_true, not_true_eq_false, true_or, or_true, false_or, or_false, true_and, and_true, isPath, G1, P1, Bool.and_true, Bool.true_and, Bool.and_self, Bool.not_true, Bool.not_false])))
        cases b with
        | rat c =>
          (try simp only [isRat, Bool.not_true, if_false, Bool.false_eq_true])
          rw [gvq] at ga gb
          have ha : Sm t := ga.sm (by decide) (by decide)
          have hb : Sm c := gb.sm (by decide) (by decide)
          have hp : Sm (t * c) := (ga.mul gb).sm (by decide) (by decide)
          have hs : Sm v := hv.sm (by omega) (by omega)
          refine wp_nil ?_
          show wpSs _ _ _ _ _ _
          refine wp_cons (wp_ite ?_)
          (((try simp only [ID, E1, R1, N2, V_cons, bw, optI, tru, notB, V_bind, V_pure, V_guard, V_ite, V_some, V_getS, V_setS, getE, asgT, setE, setsE, kilE, wipeE, D.strips, D.strip, isNop, B1, S1, P1, List.map, List.append, List.replicate, List.set_cons_zero, List.set_cons_succ, List.getElem?_cons_zero, List.getElem?_cons_succ, List.cons_append, List.nil_append, Tg.slots, if_true, Bool.false_eq_true, if_false, reduceIte, List.length_cons, List.length_nil]); (try simp only [ne_eq, reduceCtorEq, not_false_eq_true, not_true_eq_false, true_or, or_true, false_or, or_false, true_and, and_true, isPath, G1, P1, Bool.and_true, Bool.true_and, Bool.and_self, Bool.not_true, Bool.not_false])); (try rw [(N1 _).1]); ((try simp only [ID, E1, R1, N2, V_cons, bw, optI, tru, notB, V_bind, V_pure, V_guard, V_ite, V_some, V_getS, V_setS, getE, asgT, setE, setsE, kilE, wipeE, D.strips, D.strip, isNop, B1, S1, P1, List.map, List.append, List.replicate, List.set_cons_zero, List.set_cons_succ, List.getElem?_cons_zero, List.getElem?_cons_succ, List.cons_append, List.nil_append, Tg.slots, if_true, Bool.false_eq_true, if_false, reduceIte, List.length_cons, List.length_nil]); (try simp only [ne_eq, reduceCtorEq, not_false_eq_true, not_true_eq_false, true_or, or_true, false_or, or_false, true_and, and_true, isPath, G1, P1, Bool.and_true, Bool.true_and, Bool.and_self, Bool.not_true, Bool.not_false])))
          refine V_isneg ?_
          (((try simp only [ID, E1, R1, N2, V_cons, bw, optI, tru, notB, V_bind, V_pure, V_guard, V_ite, V_some, V_getS, V_setS, getE, asgT, setE, setsE, kilE, wipeE, D.strips, D.strip, isNop, B1, S1, P1, List.map, List.append, List.replicate, List.set_cons_zero, List.set_cons_succ, List.getElem?_cons_zero, List.getElem?_cons_succ, List.cons_append, List.nil_append, Tg.slots, if_true, Bool.false_eq_true, if_false, reduceIte, List.length_cons, List.length_nil]); (try simp only [ne_eq, reduceCtorEq, not_false_eq_true, not_true_eq_false, true_or, or_true, false_or, or_false, true_and, and_true, isPath, G1, P1, Bool.and_true, Bool.true_and, Bool.and_self, Bool.not_true, Bool.not_false])); (try rw [(N1 _).1]); ((try simp only [ID, E1, R1, N2, V_cons, bw, optI, tru, notB, V_bind, V_pure, V_guard, V_ite, V_some, V_getS, V_setS, getE, asgT, setE, setsE, kilE, wipeE, D.strips, D.strip, isNop, B1, S1, P1, List.map, List.append, List.replicate, List.set_cons_zero, List.set_cons_succ, List.getElem?_cons_zero, List.getElem?_cons_succ, List.cons_append, List.nil_append, Tg.slots, if_true, Bool.false_eq_true, if_false, reduceIte, List.length_cons, List.length_nil]); (try simp only [ne_eq, reduceCtorEq, not_false_eq_true, not_true_eq_false, true_or, or_true, false_or, or_false, true_and, and_true, isPath, G1, P1, Bool.and_true, Bool.true_and, Bool.and_self, Bool.not_true, Bool.not_false])))
          by_cases c3 : 0 < t
          · have er : rowM (.tup [.rat t, .rat c]) = some (t, c) := if_pos c3
            rw [er] at h
            rw [if_neg (by simpa using Rat.not_lt.mpr (Rat.le_of_lt c3))]
            refine V_iszero ?_
            (((try simp only [ID, E1, R1, N2, V_cons, bw, optI, tru, notB, V_bind, V_pure, V_guard, V_ite, V_some, V_getS, V_setS, getE, asgT, setE, setsE, kilE, wipeE, D.strips, D.strip, isNop, B1, S1, P1, List.map, List.append, List.replicate, List.set_cons_zero, List.set_cons_succ, List.getElem?_cons_zero, List.getElem?_cons_succ, List.cons_append, List.nil_append, Tg.slots, if_true, Bool.false_eq_true, if_false, reduceIte, List.length_cons, List.length_nil]); (try simp only [ne_eq, reduceCtorEq, not_false_eq_true, not_true_eq_false, true_or, or_true, false_or, or_false, true_and, and_true, isPath, G1, P1, Bool.and_true, Bool.true_and, Bool.and_self, Bool.not_true, Bool.not_false])); (try rw [(N1 _).1]); ((try simp only [ID, E1, R1, N2, V_cons, bw, optI, tru, notB, V_bind, V_pure, V_guard, V_ite, V_some, V_getS, V_setS, getE, asgT, setE, setsE, kilE, wipeE, D.strips, D.strip, isNop, B1, S1, P1, List.map, List.append, List.replicate, List.set_cons_zero, List.set_cons_succ, List.getElem?_cons_zero, List.getElem?_cons_succ, List.cons_append, List.nil_append, Tg.slots, if_true, Bool.false_eq_true, if_false, reduceIte, List.length_cons, List.length_nil]); (try simp only [ne_eq, reduceCtorEq, not_false_eq_true, not_true_eq_false, true_or, or_true, false_or, or_false, true_and, and_true, isPath, G1, P1, Bool.and_true, Bool.true_and, Bool.and_self, Bool.not_true, Bool.not_false])))
            rw [if_neg (by simp; intro z; rw [z] at c3; exact absurd c3 (by decide))]
            refine wp_nil ?_
            show wpSs _ _ _ _ _ _
            refine wp_cons (wp_asg ?_)
            (((try simp only [ID, E1, R1, N2, V_cons, bw, optI, tru, notB, V_bind, V_pure, V_guard, V_ite, V_some, V_getS, V_setS, getE, asgT, setE, setsE, kilE, wipeE, D.strips, D.strip, isNop, B1, S1, P1, List.map, List.append, List.replicate, List.set_cons_zero, List.set_cons_succ, List.getElem?_cons_zero, List.getElem?_cons_succ, List.cons_append, List.nil_append, Tg.slots, if_true, Bool.false_eq_true, if_false, reduceIte, List.length_cons, List.length_nil]); (try simp only [ne_eq, reduceCtorEq, not_false_eq_true, not_true_eq_false, true_or, or_true, false_or, or_false, true_and, and_true, isPath, G1, P1, Bool.and_true, Bool.true_and, Bool.and_self, Bool.not_true, Bool.not_false])); (try rw [(N1 _).1]); ((try simp only [ID, E1, R1, N2, V_cons, bw, optI, tru, notB, V_bind, V_pure, V_guard, V_ite, V_some, V_getS, V_setS, getE, asgT, setE, setsE, kilE, wipeE, D.strips, D.strip, isNop, B1, S1, P1, List.map, List.append, List.replicate, List.set_cons_zero, List.set_cons_succ, List.getElem?_cons_zero, List.getElem?_cons_succ, List.cons_append, List.nil_append, Tg.slots, if_true, Bool.false_eq_true, if_false, reduceIte, List.length_cons, List.length_nil]); (try simp only [ne_eq, reduceCtorEq, not_false_eq_true, not_true_eq_false, true_or, or_true, false_or, or_false, true_and, and_true, isPath, G1, P1, Bool.and_true, Bool.true_and, Bool.and_self, Bool.not_true, Bool.not_false])))
            refine ⟨⟨ha, hb⟩, ⟨hs, hp⟩, ?_⟩
            show wpSs _ _ _ _ _ _
            refine wp_nil ?_
            exact h
          · have er : rowM (.tup [.rat t, .rat c]) = none := if_neg c3
            by_cases c4 : t < 0
            · rw [if_pos (decide_eq_true c4)]
              exact out er _ _ _
            · rw [if_neg (by simpa using c4)]
              refine V_iszero ?_
              (((try simp only [ID, E1, R1, N2, V_cons, bw, optI, tru, notB, V_bind, V_pure, V_guard, V_ite, V_some, V_getS, V_setS, getE, asgT, setE, setsE, kilE, wipeE, D.strips, D.strip, isNop, B1, S1, P1, List.map, List.append, List.replicate, List.set_cons_zero, List.set_cons_succ, List.getElem?_cons_zero, List.getElem?_cons_succ, List.cons_append, List.nil_append, Tg.slots, if_true, Bool.false_eq_true, if_false, reduceIte, List.length_cons, List.length_nil]); (try simp only [ne_eq, reduceCtorEq, not_false_eq_true, not_true_eq_false, true_or, or_true, false_or, or_false, true_and, and_true, isPath, G1, P1, Bool.and_true, Bool.true_and, Bool.and_self, Bool.not_true, Bool.not_false])); (try rw [(N1 _).1]); ((try simp only [ID, E1, R1, N2, V_cons, bw, optI, tru, notB, V_bind, V_pure, V_guard, V_ite, V_some, V_getS, V_setS, getE, asgT, setE, setsE, kilE, wipeE, D.strips, D.strip, isNop, B1, S1, P1, List.map, List.append, List.replicate, List.set_cons_zero, List.set_cons_succ, List.getElem?_cons_zero, List.getElem?_cons_succ, List.cons_append, List.nil_append, Tg.slots, if_true, Bool.false_eq_true, if_false, reduceIte, List.length_cons, List.length_nil]); (try simp only [ne_eq, reduceCtorEq, not_false_eq_true, not_true_eq_false, true_or, or_true, false_or, or_false, true_and, and_true, isPath, G1, P1, Bool.and_true, Bool.true_and, Bool.and_self, Bool.not_true, Bool.not_false])))
              have : t = 0 := Rat.le_antisymm (Rat.not_lt.mp c3) (Rat.not_lt.mp c4)
              rw [if_pos (by simpa using this)]
              exact out er _ _ _
        | _ => first | (exact gb.elim) | ((try simp only [isRat, Bool.not_false, if_true]); exact out (by simp [rowM]) _ _ _)
      | _ => first | (exact ga.elim) | ((try simp only [isRat, Bool.not_false, if_true]); exact out (by simp [rowM]) _ _ _)
    · (((try simp only [ID, E1, R1, N2, V_cons, bw, optI, tru, notB, V_bind, V_pure, V_guard, V_ite, V_some, V_getS, V_setS, getE, asgT, setE, setsE, kilE, wipeE, D.strips, D.strip, isNop, B1, S1, P1, List.map, List.append, List.replicate, List.set_cons_zero, List.set_cons_succ, List.getElem?_cons_zero, List.getElem?_cons_succ, List.cons_append, List.nil_append, Tg.slots, if_true, Bool.false_eq_true, if_false, reduceIte, List.length_cons, List.length_nil]); (try simp only [ne_eq, reduceCtorEq, not_false_eq_true, not_true_eq_false, true_or, or_true, false_or, or_false, true_and, and_true, isPath, G1, P1, Bool.and_true, Bool.true_and, Bool.and_self, Bool.not_true, Bool.not_false])); (try rw [(N1 _).1]); ((try simp only [ID, E1, R1, N2, V_cons, bw, optI, tru, notB, V_bind, V_pure, V_guard, V_ite, V_some, V_getS, V_setS, getE, asgT, setE, setsE, kilE, wipeE, D.strips, D.strip, isNop, B1, S1, P1, List.map, List.append, List.replicate, List.set_cons_zero, List.set_cons_succ, List.getElem?_cons_zero, List.getElem?_cons_succ, List.cons_append, List.nil_append, Tg.slots, if_true, Bool.false_eq_true, if_false, reduceIte, List.length_cons, List.length_nil]); (try simp only [ne_eq, reduceCtorEq, not_false_eq_true, not_true_eq_false, true_or, or_true, false_or, or_false, true_and, and_true, isPath, G1, P1, Bool.and_true, Bool.true_and, Bool.and_self, Bool.not_true, Bool.not_false])))
      refine ⟨no, ?_⟩
      rw [if_pos (by simp; omega)]
      exact out (not2 hl) _ _ _
  | _ => (((try simp only [ID, E1, R1, N2, V_cons, bw, optI, tru, notB, V_bind, V_pure, V_guard, V_ite, V_some, V_getS, V_setS, getE, asgT, setE, setsE, kilE, wipeE, D.strips, D.strip, isNop, B1, S1, P1, List.map, List.append, List.replicate, List.set_cons_zero, List.set_cons_succ, List.getElem?_cons_zero, List.getElem?_cons_succ, List.cons_append, List.nil_append, Tg.slots, if_true, Bool.false_eq_true, if_false, reduceIte, List.length_cons, List.length_nil]); (try simp only [ne_eq, reduceCtorEq, not_false_eq_true, not_true_eq_false, true_or, or_true, false_or, or_false, true_and, and_true, isPath, G1, P1, Bool.and_true, Bool.true_and, Bool.and_self, Bool.not_true, Bool.not_false])); (try rw [(N1 _).1]); ((try simp only [ID, E1, R1, N2, V_cons, bw, optI, tru, notB, V_bind, V_pure, V_guard, V_ite, V_some, V_getS, V_setS, getE, asgT, setE, setsE, kilE, wipeE, D.strips, D.strip, isNop, B1, S1, P1, List.map, List.append, List.replicate, List.set_cons_zero, List.set_cons_succ, List.getElem?_cons_zero, List.getElem?_cons_succ, List.cons_append, List.nil_append, Tg.slots, if_true, Bool.false_eq_true, if_false, reduceIte, List.length_cons, List.length_nil]); (try simp only [ne_eq, reduceCtorEq, not_false_eq_true, not_true_eq_false, true_or, or_true, false_or, or_false, true_and, and_true, isPath, G1, P1, Bool.and_true, Bool.true_and, Bool.and_self, Bool.not_true, Bool.not_false]))); exact out (by simp [rowM]) _ _ _
theorem sum_step {x : D} {ds : List D} {v t a : Rat} (e : rowM x = some (t, a)) : sumM (x :: ds) v = sumM ds (v + t * a) := by rw [sumM, e]
theorem sum_none {x : D} {ds : List D} {v : Rat} (e : rowM x = none) : sumM (x :: ds) v = none := by rw [sumM, e]
theorem zb_next {x : D} {t a v : Rat} {i : Nat} (g : x.gv) (e : rowM x = some (t, a)) (hv : Zb (601 * i) (601 * i) v) : Zb (601 * (i + 1)) (601 * (i + 1)) (v + t * a) := by
  unfold rowM at e
  split at e
  · rename_i t' a'
    rw [gv_tup] at g
    have g1 := g (.rat t') (by simp)
    have g2 := g (.rat a') (by simp)
    rw [gvq] at g1 g2
    split at e
    · cases e
      exact (hv.add (g1.mul g2)).mono (by omega) (by omega)
    · cases e
  · cases e
/-- the rows, as the law walks them -/
theorem lawA {kk : Nat} {d : D} {s : Strm} {Q : D → Strm → Prop} (g : d.gv) (no : d.noOwn = true) (q : Q (.bl (mvB d)) s) : V (callF Γ (kk + 3) "_law_is_move" [d]) s Q := by
  refine V_call (md := d__law_is_move) rfl rfl ?_
  have hb := @rowA
  simp only [d__law_is_move] at hb ⊢
  have hlim : (LIM : Int) = 1000000 := rfl
  cases d with
  | strm => exact g.elim
  | scr _ => exact g.elim
  | tup ds =>
    rw [D.gv, gvs_all] at g
    rw [D.noOwn] at no
    have no2 := noOwns_all.mp no
    (((try simp only [ID, E1, R1, N2, V_cons, bw, optI, tru, notB, V_bind, V_pure, V_guard, V_ite, V_some, V_getS, V_setS, getE, asgT, setE, setsE, kilE, wipeE, D.strips, D.strip, isNop, B1, S1, P1, List.map, List.append, List.replicate, List.set_cons_zero, List.set_cons_succ, List.getElem?_cons_zero, List.getElem?_cons_succ, List.cons_append, List.nil_append, Tg.slots, if_true, Bool.false_eq_true, if_false, reduceIte, List.length_cons, List.length_nil]); (try simp only [ne_eq, reduceCtorEq, not_false_eq_true, not_true_eq_false, true_or, or_true, false_or, or_false, true_and, and_true, isPath, G1, P1, Bool.and_true, Bool.true_and, Bool.and_self, Bool.not_true, Bool.not_false])); (try rw [(N1 _).1]); ((try simp only [ID, E1, R1, N2, V_cons, bw, optI, tru, notB, V_bind, V_pure, V_guard, V_ite, V_some, V_getS, V_setS, getE, asgT, setE, setsE, kilE, wipeE, D.strips, D.strip, isNop, B1, S1, P1, List.map, List.append, List.replicate, List.set_cons_zero, List.set_cons_succ, List.getElem?_cons_zero, List.getElem?_cons_succ, List.cons_append, List.nil_append, Tg.slots, if_true, Bool.false_eq_true, if_false, reduceIte, List.length_cons, List.length_nil]); (try simp only [ne_eq, reduceCtorEq, not_false_eq_true, not_true_eq_false, true_or, or_true, false_or, or_false, true_and, and_true, isPath, G1, P1, Bool.and_true, Bool.true_and, Bool.and_self, Bool.not_true, Bool.not_false])))
    refine ⟨no, ?_⟩
    by_cases c1 : (1 : Int) ≤ ds.length
    · rw [if_pos (decide_eq_true c1)]
      by_cases c2 : (ds.length : Int) ≤ 6
      · rw [if_neg (by simpa using c2)]
        rw [show D.tup [.int 0, .int 1] = pr 0 from rfl]
        (((try simp only [ID, E1, R1, N2, V_cons, bw, optI, tru, notB, V_bind, V_pure, V_guard, V_ite, V_some, V_getS, V_setS, getE, asgT, setE, setsE, kilE, wipeE, D.strips, D.strip, isNop, B1, S1, P1, List.map, List.append, List.replicate, List.set_cons_zero, List.set_cons_succ, List.getElem?_cons_zero, List.getElem?_cons_succ, List.cons_append, List.nil_append, Tg.slots, if_true, Bool.false_eq_true, if_false, reduceIte, List.length_cons, List.length_nil]); (try simp only [ne_eq, reduceCtorEq, not_false_eq_true, not_true_eq_false, true_or, or_true, false_or, or_false, true_and, and_true, isPath, G1, P1, Bool.and_true, Bool.true_and, Bool.and_self, Bool.not_true, Bool.not_false])); (try rw [(N1 _).1]); ((try simp only [ID, E1, R1, N2, V_cons, bw, optI, tru, notB, V_bind, V_pure, V_guard, V_ite, V_some, V_getS, V_setS, getE, asgT, setE, setsE, kilE, wipeE, D.strips, D.strip, isNop, B1, S1, P1, List.map, List.append, List.replicate, List.set_cons_zero, List.set_cons_succ, List.getElem?_cons_zero, List.getElem?_cons_succ, List.cons_append, List.nil_append, Tg.slots, if_true, Bool.false_eq_true, if_false, reduceIte, List.length_cons, List.length_nil]); (try simp only [ne_eq, reduceCtorEq, not_false_eq_true, not_true_eq_false, true_or, or_true, false_or, or_false, true_and, and_true, isPath, G1, P1, Bool.and_true, Bool.true_and, Bool.and_self, Bool.not_true, Bool.not_false])))
        refine ⟨no, no, ?_⟩
        have hsh : mvB (.tup ds) = isZ (sumM ds 0) := by
          rw [mvB_tup, decide_eq_true (show 1 ≤ ds.length by omega), decide_eq_true (show ds.length ≤ 6 by omega)]
          rfl
        rw [hsh] at q
        generalize hT1 : Bdy (callF Γ (kk + 2)) _ = T1
        refine V_for (fun i e t => t = s ∧ ∃ v, Zb (601 * i) (601 * i) v ∧ sumM ds 0 = sumM (ds.drop i) v ∧ e = [some (.tup ds), some (pr v), none]) _ 0 ⟨rfl, 0, Zb.zero, by rw [List.drop_zero], rfl⟩ ?_ ?_
        · rintro i x e t hx ⟨rfl, v, zv, hr, rfl⟩
          rw [Nat.zero_add] at hr zv
          have hi : i < ds.length := (List.getElem?_eq_some_iff.mp hx).1
          have hxe : ds[i] = x := (List.getElem?_eq_some_iff.mp hx).2
          have hm : x ∈ ds := hxe ▸ List.getElem_mem hi
          ((try simp only [E1, R1, N2, V_cons, bw, optI, tru, notB, V_bind, V_pure, V_guard, V_ite, V_some, V_getS, V_setS, getE, asgT, setE, setsE, kilE, wipeE, D.strips, D.strip, isNop, B1, S1, P1, List.map, List.append, List.replicate, List.set_cons_zero, List.set_cons_succ, List.getElem?_cons_zero, List.getElem?_cons_succ, List.cons_append, List.nil_append, Tg.slots, if_true, Bool.false_eq_true, if_false, reduceIte, List.length_cons, List.length_nil]); (try simp only [ne_eq, reduceCtorEq, not_false_eq_true, not_true_eq_false, true_or, or_true, false_or, or_false, true_and, and_true, isPath, G1, P1, Bool.and_true, Bool.true_and, Bool.and_self, Bool.not_true, Bool.not_false]))
          rw [← congrFun hT1, Bdy_eq]
          rw [List.drop_eq_getElem_cons hi, hxe] at hr
          refine hb (g _ hm) (no2 _ hm) zv (by omega) ?_
          cases er : rowM x with
          | some ta =>
            obtain ⟨t, a⟩ := ta
            rw [sum_step er] at hr
            ((try simp only [E1, R1, N2, V_cons, bw, optI, tru, notB, V_bind, V_pure, V_guard, V_ite, V_some, V_getS, V_setS, getE, asgT, setE, setsE, kilE, wipeE, D.strips, D.strip, isNop, B1, S1, P1, List.map, List.append, List.replicate, List.set_cons_zero, List.set_cons_succ, List.getElem?_cons_zero, List.getElem?_cons_succ, List.cons_append, List.nil_append, Tg.slots, if_true, Bool.false_eq_true, if_false, reduceIte, List.length_cons, List.length_nil]); (try simp only [ne_eq, reduceCtorEq, not_false_eq_true, not_true_eq_false, true_or, or_true, false_or, or_false, true_and, and_true, isPath, G1, P1, Bool.and_true, Bool.true_and, Bool.and_self, Bool.not_true, Bool.not_false]))
            rw [Nat.zero_add]
            exact ⟨_, zb_next (g _ hm) er zv, hr, rfl⟩
          | none =>
            rw [sum_none er] at hr
            rw [hr] at q
            ((try simp only [E1, R1, N2, V_cons, bw, optI, tru, notB, V_bind, V_pure, V_guard, V_ite, V_some, V_getS, V_setS, getE, asgT, setE, setsE, kilE, wipeE, D.strips, D.strip, isNop, B1, S1, P1, List.map, List.append, List.replicate, List.set_cons_zero, List.set_cons_succ, List.getElem?_cons_zero, List.getElem?_cons_succ, List.cons_append, List.nil_append, Tg.slots, if_true, Bool.false_eq_true, if_false, reduceIte, List.length_cons, List.length_nil]); (try simp only [ne_eq, reduceCtorEq, not_false_eq_true, not_true_eq_false, true_or, or_true, false_or, or_false, true_and, and_true, isPath, G1, P1, Bool.and_true, Bool.true_and, Bool.and_self, Bool.not_true, Bool.not_false]))
            exact q
        · rintro e t ⟨rfl, v, zv, hr, rfl⟩
          rw [Nat.zero_add, List.drop_length, sumM] at hr
          rw [hr] at q
          (((try simp only [ID, E1, R1, N2, V_cons, bw, optI, tru, notB, V_bind, V_pure, V_guard, V_ite, V_some, V_getS, V_setS, getE, asgT, setE, setsE, kilE, wipeE, D.strips, D.strip, isNop, B1, S1, P1, List.map, List.append, List.replicate, List.set_cons_zero, List.set_cons_succ, List.getElem?_cons_zero, List.getElem?_cons_succ, List.cons_append, List.nil_append, Tg.slots, if_true, Bool.false_eq_true, if_false, reduceIte, List.length_cons, List.length_nil]); (try simp only [ne_eq, reduceCtorEq, not_false_eq_true, not_true_eq_false, true_or, or_true, false_or, or_false, true_and, and_true, isPath, G1, P1, Bool.and_true, Bool.true_and, Bool.and_self, Bool.not_true, Bool.not_false])); (try rw [(N1 _).1]); ((try simp only [ID, E1, R1, N2, V_cons, bw, optI, tru, notB, V_bind, V_pure, V_guard, V_ite, V_some, V_getS, V_setS, getE, asgT, setE, setsE, kilE, wipeE, D.strips, D.strip, isNop, B1, S1, P1, List.map, List.append, List.replicate, List.set_cons_zero, List.set_cons_succ, List.getElem?_cons_zero, List.getElem?_cons_succ, List.cons_append, List.nil_append, Tg.slots, if_true, Bool.false_eq_true, if_false, reduceIte, List.length_cons, List.length_nil]); (try simp only [ne_eq, reduceCtorEq, not_false_eq_true, not_true_eq_false, true_or, or_true, false_or, or_false, true_and, and_true, isPath, G1, P1, Bool.and_true, Bool.true_and, Bool.and_self, Bool.not_true, Bool.not_false])))
          rw [num_eq]
          exact q
      · rw [if_pos (by simpa using c2)]
        have : mvB (.tup ds) = false := by
          rw [mvB_tup, decide_eq_false (show ¬ ds.length ≤ 6 by omega), Bool.and_false]
          rfl
        rw [this] at q
        exact q
    · rw [if_neg (by simpa using c1)]
      have : mvB (.tup ds) = false := by
        rw [mvB_tup, decide_eq_false (show ¬ 1 ≤ ds.length by omega)]
        rfl
      rw [this] at q
      (((try simp only [ID, E1, R1, N2, V_cons, bw, optI, tru, notB, V_bind, V_pure, V_guard, V_ite, V_some, V_getS, V_setS, getE, asgT, setE, setsE, kilE, wipeE, D.strips, D.strip, isNop, B1, S1, P1, List.map, List.append, List.replicate, List.set_cons_zero, List.set_cons_succ, List.getElem?_cons_zero, List.getElem?_cons_succ, List.cons_append, List.nil_append, Tg.slots, if_true, Bool.false_eq_true, if_false, reduceIte, List.length_cons, List.length_nil]); (try simp only [ne_eq, reduceCtorEq, not_false_eq_true, not_true_eq_false, true_or, or_true, false_or, or_false, true_and, and_true, isPath, G1, P1, Bool.and_true, Bool.true_and, Bool.and_self, Bool.not_true, Bool.not_false])); (try rw [(N1 _).1]); ((try simp only [ID, E1, R1, N2, V_cons, bw, optI, tru, notB, V_bind, V_pure, V_guard, V_ite, V_some, V_getS, V_setS, getE, asgT, setE, setsE, kilE, wipeE, D.strips, D.strip, isNop, B1, S1, P1, List.map, List.append, List.replicate, List.set_cons_zero, List.set_cons_succ, List.getElem?_cons_zero, List.getElem?_cons_succ, List.cons_append, List.nil_append, Tg.slots, if_true, Bool.false_eq_true, if_false, reduceIte, List.length_cons, List.length_nil]); (try simp only [ne_eq, reduceCtorEq, not_false_eq_true, not_true_eq_false, true_or, or_true, false_or, or_false, true_and, and_true, isPath, G1, P1, Bool.and_true, Bool.true_and, Bool.and_self, Bool.not_true, Bool.not_false])))
      exact q
  | _ => (((try simp only [ID, E1, R1, N2, V_cons, bw, optI, tru, notB, V_bind, V_pure, V_guard, V_ite, V_some, V_getS, V_setS, getE, asgT, setE, setsE, kilE, wipeE, D.strips, D.strip, isNop, B1, S1, P1, List.map, List.append, List.replicate, List.set_cons_zero, List.set_cons_succ, List.getElem?_cons_zero, List.getElem?_cons_succ, List.cons_append, List.nil_append, Tg.slots, if_true, Bool.false_eq_true, if_false, reduceIte, List.length_cons, List.length_nil]); (try simp only [ne_eq, reduceCtorEq, not_false_eq_true, not_true_eq_false, true_or, or_true, false_or, or_false, true_and, and_true, isPath, G1, P1, Bool.and_true, Bool.true_and, Bool.and_self, Bool.not_true, Bool.not_false])); (try rw [(N1 _).1]); ((try simp only [ID, E1, R1, N2, V_cons, bw, optI, tru, notB, V_bind, V_pure, V_guard, V_ite, V_some, V_getS, V_setS, getE, asgT, setE, setsE, kilE, wipeE, D.strips, D.strip, isNop, B1, S1, P1, List.map, List.append, List.replicate, List.set_cons_zero, List.set_cons_succ, List.getElem?_cons_zero, List.getElem?_cons_succ, List.cons_append, List.nil_append, Tg.slots, if_true, Bool.false_eq_true, if_false, reduceIte, List.length_cons, List.length_nil]); (try simp only [ne_eq, reduceCtorEq, not_false_eq_true, not_true_eq_false, true_or, or_true, false_or, or_false, true_and, and_true, isPath, G1, P1, Bool.and_true, Bool.true_and, Bool.and_self, Bool.not_true, Bool.not_false]))); exact q
/-- the rows, as the program walks them -/
theorem progB {kk : Nat} {d : D} {s : Strm} (g : d.gv) (no : d.noOwn = true) : wpSs (callF Γ (kk + 1)) (fun c _ => c = "BadMove" ∧ mvB d = false) d_check_move.body [some d, none, none] s (fun r _ => match r with | .nx _ => mvB d = true | _ => False) := by
  simp only [d_check_move]
  have out : mvB d = false → ∀ (as : MSs) (e : En) (Q : Fl → Strm → Prop), wpSs (callF Γ (kk + 1)) (fun c _ => c = "BadMove" ∧ mvB d = false) (.cons (.raise "BadMove") as) e s Q := fun z as e Q => wp_raise ⟨rfl, z⟩
  refine wp_cons (wp_ite ?_)
  cases d with
  | strm => exact g.elim
  | scr _ => exact g.elim
  | tup ds =>
    rw [D.gv, gvs_all] at g
    rw [D.noOwn] at no
    have no2 := noOwns_all.mp no
    (((try simp only [ID, E1, R1, N2, V_cons, bw, optI, tru, notB, V_bind, V_pure, V_guard, V_ite, V_some, V_getS, V_setS, getE, asgT, setE, setsE, kilE, wipeE, D.strips, D.strip, isNop, B1, S1, P1, List.map, List.append, List.replicate, List.set_cons_zero, List.set_cons_succ, List.getElem?_cons_zero, List.getElem?_cons_succ, List.cons_append, List.nil_append, Tg.slots, if_true, Bool.false_eq_true, if_false, reduceIte, List.length_cons, List.length_nil]); (try simp only [ne_eq, reduceCtorEq, not_false_eq_true, not_true_eq_false, true_or, or_true, false_or, or_false, true_and, and_true, isPath, G1, P1, Bool.and_true, Bool.true_and, Bool.and_self, Bool.not_true, Bool.not_false])); (try rw [(N1 _).1]); ((try simp only [ID, E1, R1, N2, V_cons, bw, optI, tru, notB, V_bind, V_pure, V_guard, V_ite, V_some, V_getS, V_setS, getE, asgT, setE, setsE, kilE, wipeE, D.strips, D.strip, isNop, B1, S1, P1, List.map, List.append, List.replicate, List.set_cons_zero, List.set_cons_succ, List.getElem?_cons_zero, List.getElem?_cons_succ, List.cons_append, List.nil_append, Tg.slots, if_true, Bool.false_eq_true, if_false, reduceIte, List.length_cons, List.length_nil]); (try simp only [ne_eq, reduceCtorEq, not_false_eq_true, not_true_eq_false, true_or, or_true, false_or, or_false, true_and, and_true, isPath, G1, P1, Bool.and_true, Bool.true_and, Bool.and_self, Bool.not_true, Bool.not_false])))
    refine ⟨no, ?_⟩
    by_cases c1 : (1 : Int) ≤ ds.length
    · rw [if_pos (decide_eq_true c1)]
      by_cases c2 : (ds.length : Int) ≤ 6
      · rw [if_neg (by simpa using c2)]
        refine wp_nil ?_
        show wpSs _ _ _ _ _ _
        have hsh : mvB (.tup ds) = isZ (sumM ds 0) := by
          rw [mvB_tup, decide_eq_true (show 1 ≤ ds.length by omega), decide_eq_true (show ds.length ≤ 6 by omega)]
          rfl
        rw [hsh]
        refine wp_cons (wp_asg ?_)
        (((try simp only [ID, E1, R1, N2, V_cons, bw, optI, tru, notB, V_bind, V_pure, V_guard, V_ite, V_some, V_getS, V_setS, getE, asgT, setE, setsE, kilE, wipeE, D.strips, D.strip, isNop, B1, S1, P1, List.map, List.append, List.replicate, List.set_cons_zero, List.set_cons_succ, List.getElem?_cons_zero, List.getElem?_cons_succ, List.cons_append, List.nil_append, Tg.slots, if_true, Bool.false_eq_true, if_false, reduceIte, List.length_cons, List.length_nil]); (try simp only [ne_eq, reduceCtorEq, not_false_eq_true, not_true_eq_false, true_or, or_true, false_or, or_false, true_and, and_true, isPath, G1, P1, Bool.and_true, Bool.true_and, Bool.and_self, Bool.not_true, Bool.not_false])); (try rw [(N1 _).1]); ((try simp only [ID, E1, R1, N2, V_cons, bw, optI, tru, notB, V_bind, V_pure, V_guard, V_ite, V_some, V_getS, V_setS, getE, asgT, setE, setsE, kilE, wipeE, D.strips, D.strip, isNop, B1, S1, P1, List.map, List.append, List.replicate, List.set_cons_zero, List.set_cons_succ, List.getElem?_cons_zero, List.getElem?_cons_succ, List.cons_append, List.nil_append, Tg.slots, if_true, Bool.false_eq_true, if_false, reduceIte, List.length_cons, List.length_nil]); (try simp only [ne_eq, reduceCtorEq, not_false_eq_true, not_true_eq_false, true_or, or_true, false_or, or_false, true_and, and_true, isPath, G1, P1, Bool.and_true, Bool.true_and, Bool.and_self, Bool.not_true, Bool.not_false])))
        show wpSs _ _ _ _ _ _
        refine wp_cons (wp_loop ?_)
        (((try simp only [ID, E1, R1, N2, V_cons, bw, optI, tru, notB, V_bind, V_pure, V_guard, V_ite, V_some, V_getS, V_setS, getE, asgT, setE, setsE, kilE, wipeE, D.strips, D.strip, isNop, B1, S1, P1, List.map, List.append, List.replicate, List.set_cons_zero, List.set_cons_succ, List.getElem?_cons_zero, List.getElem?_cons_succ, List.cons_append, List.nil_append, Tg.slots, if_true, Bool.false_eq_true, if_false, reduceIte, List.length_cons, List.length_nil]); (try simp only [ne_eq, reduceCtorEq, not_false_eq_true, not_true_eq_false, true_or, or_true, false_or, or_false, true_and, and_true, isPath, G1, P1, Bool.and_true, Bool.true_and, Bool.and_self, Bool.not_true, Bool.not_false])); (try rw [(N1 _).1]); ((try simp only [ID, E1, R1, N2, V_cons, bw, optI, tru, notB, V_bind, V_pure, V_guard, V_ite, V_some, V_getS, V_setS, getE, asgT, setE, setsE, kilE, wipeE, D.strips, D.strip, isNop, B1, S1, P1, List.map, List.append, List.replicate, List.set_cons_zero, List.set_cons_succ, List.getElem?_cons_zero, List.getElem?_cons_succ, List.cons_append, List.nil_append, Tg.slots, if_true, Bool.false_eq_true, if_false, reduceIte, List.length_cons, List.length_nil]); (try simp only [ne_eq, reduceCtorEq, not_false_eq_true, not_true_eq_false, true_or, or_true, false_or, or_false, true_and, and_true, isPath, G1, P1, Bool.and_true, Bool.true_and, Bool.and_self, Bool.not_true, Bool.not_false])))
        refine ⟨no, no, ?_⟩
        have key : ∀ (xs : List D) (i : Nat) (v : Rat), i + xs.length ≤ 6 → (∀ x ∈ xs, x.gv ∧ x.noOwn = true) → Zb (601 * i) (601 * i) v → sumM ds 0 = sumM xs v → wpFor (fun e s Q => wpSs (callF Γ (kk + 1)) (fun c x => c = "BadMove" ∧ isZ (sumM ds 0) = false) (match d_check_move.body with | .cons _ (.cons _ (.cons (.loop _ _ b _) _)) => b | _ => .nil) e s Q) (.nm 2) [2] xs [some (.tup ds), some (.rat v), none] s (nxS (fun e s Q => wpSs (callF Γ (kk + 1)) (fun c x => c = "BadMove" ∧ isZ (sumM ds 0) = false) (match d_check_move.body with | .cons _ (.cons _ (.cons _ r)) => r | _ => .nil) e s Q) fun r x => match r with | .nx _ => isZ (sumM ds 0) = true | _ => False) := by
          intro xs
          induction xs with
          | nil =>
            intro i v hi _ zv e
            rw [sumM] at e
            rw [wpFor]
            show wpSs _ _ _ _ _ _
            rw [e]
            refine wp_cons (wp_ite ?_)
            (((try simp only [ID, E1, R1, N2, V_cons, bw, optI, tru, notB, V_bind, V_pure, V_guard, V_ite, V_some, V_getS, V_setS, getE, asgT, setE, setsE, kilE, wipeE, D.strips, D.strip, isNop, B1, S1, P1, List.map, List.append, List.replicate, List.set_cons_zero, List.set_cons_succ, List.getElem?_cons_zero, List.getElem?_cons_succ, List.cons_append, List.nil_append, Tg.slots, if_true, Bool.false_eq_true, if_false, reduceIte, List.length_cons, List.length_nil]); (try simp only [ne_eq, reduceCtorEq, not_false_eq_true, not_true_eq_false, true_or, or_true, false_or, or_false, true_and, and_true, isPath, G1, P1, Bool.and_true, Bool.true_and, Bool.and_self, Bool.not_true, Bool.not_false])); (try rw [(N1 _).1]); ((try simp only [ID, E1, R1, N2, V_cons, bw, optI, tru, notB, V_bind, V_pure, V_guard, V_ite, V_some, V_getS, V_setS, getE, asgT, setE, setsE, kilE, wipeE, D.strips, D.strip, isNop, B1, S1, P1, List.map, List.append, List.replicate, List.set_cons_zero, List.set_cons_succ, List.getElem?_cons_zero, List.getElem?_cons_succ, List.cons_append, List.nil_append, Tg.slots, if_true, Bool.false_eq_true, if_false, reduceIte, List.length_cons, List.length_nil]); (try simp only [ne_eq, reduceCtorEq, not_false_eq_true, not_true_eq_false, true_or, or_true, false_or, or_false, true_and, and_true, isPath, G1, P1, Bool.and_true, Bool.true_and, Bool.and_self, Bool.not_true, Bool.not_false])))
            refine V_iszero ?_
            (((try simp only [ID, E1, R1, N2, V_cons, bw, optI, tru, notB, V_bind, V_pure, V_guard, V_ite, V_some, V_getS, V_setS, getE, asgT, setE, setsE, kilE, wipeE, D.strips, D.strip, isNop, B1, S1, P1, List.map, List.append, List.replicate, List.set_cons_zero, List.set_cons_succ, List.getElem?_cons_zero, List.getElem?_cons_succ, List.cons_append, List.nil_append, Tg.slots, if_true, Bool.false_eq_true, if_false, reduceIte, List.length_cons, List.length_nil]); (try simp only [ne_eq, reduceCtorEq, not_false_eq_true, not_true_eq_false, true_or, or_true, false_or, or_false, true_and, and_true, isPath, G1, P1, Bool.and_true, Bool.true_and, Bool.and_self, Bool.not_true, Bool.not_false])); (try rw [(N1 _).1]); ((try simp only [ID, E1, R1, N2, V_cons, bw, optI, tru, notB, V_bind, V_pure, V_guard, V_ite, V_some, V_getS, V_setS, getE, asgT, setE, setsE, kilE, wipeE, D.strips, D.strip, isNop, B1, S1, P1, List.map, List.append, List.replicate, List.set_cons_zero, List.set_cons_succ, List.getElem?_cons_zero, List.getElem?_cons_succ, List.cons_append, List.nil_append, Tg.slots, if_true, Bool.false_eq_true, if_false, reduceIte, List.length_cons, List.length_nil]); (try simp only [ne_eq, reduceCtorEq, not_false_eq_true, not_true_eq_false, true_or, or_true, false_or, or_false, true_and, and_true, isPath, G1, P1, Bool.and_true, Bool.true_and, Bool.and_self, Bool.not_true, Bool.not_false])))
            by_cases c : v = 0
            · rw [if_neg (by simpa using c)]
              refine wp_nil ?_
              show wpSs _ _ _ _ _ _
              refine wp_nil ?_
              show (v == 0) = true
              simpa using c
            · rw [if_pos (by simpa using c)]
              exact wp_raise ⟨rfl, by show (v == 0) = false; simpa using c⟩
          | cons x xs ih =>
            intro i v hi hx zv e
            rw [List.length_cons] at hi
            rw [wpFor]
            refine V_iff.mp ?_
            (((try simp only [ID, E1, R1, N2, V_cons, bw, optI, tru, notB, V_bind, V_pure, V_guard, V_ite, V_some, V_getS, V_setS, getE, asgT, setE, setsE, kilE, wipeE, D.strips, D.strip, isNop, B1, S1, P1, List.map, List.append, List.replicate, List.set_cons_zero, List.set_cons_succ, List.getElem?_cons_zero, List.getElem?_cons_succ, List.cons_append, List.nil_append, Tg.slots, if_true, Bool.false_eq_true, if_false, reduceIte, List.length_cons, List.length_nil]); (try simp only [ne_eq, reduceCtorEq, not_false_eq_true, not_true_eq_false, true_or, or_true, false_or, or_false, true_and, and_true, isPath, G1, P1, Bool.and_true, Bool.true_and, Bool.and_self, Bool.not_true, Bool.not_false])); (try rw [(N1 _).1]); ((try simp only [ID, E1, R1, N2, V_cons, bw, optI, tru, notB, V_bind, V_pure, V_guard, V_ite, V_some, V_getS, V_setS, getE, asgT, setE, setsE, kilE, wipeE, D.strips, D.strip, isNop, B1, S1, P1, List.map, List.append, List.replicate, List.set_cons_zero, List.set_cons_succ, List.getElem?_cons_zero, List.getElem?_cons_succ, List.cons_append, List.nil_append, Tg.slots, if_true, Bool.false_eq_true, if_false, reduceIte, List.length_cons, List.length_nil]); (try simp only [ne_eq, reduceCtorEq, not_false_eq_true, not_true_eq_false, true_or, or_true, false_or, or_false, true_and, and_true, isPath, G1, P1, Bool.and_true, Bool.true_and, Bool.and_self, Bool.not_true, Bool.not_false])))
            obtain ⟨gx, nx⟩ := hx x List.mem_cons_self
            refine rowC gx nx zv (by omega) ?_
            cases er : rowM x with
            | some ta =>
              obtain ⟨t, a⟩ := ta
              rw [sum_step er] at e
              exact ih (i + 1) _ (by omega) (fun y hy => hx y (List.mem_cons_of_mem _ hy)) (zb_next gx er zv) e
            | none =>
              rw [sum_none er] at e
              exact ⟨rfl, by rw [e]; rfl⟩
        exact key ds 0 0 (by omega) (fun x hx => ⟨g x hx, no2 x hx⟩) Zb.zero rfl
      · rw [if_pos (by simpa using c2)]
        refine out ?_ _ _ _
        rw [mvB_tup, decide_eq_false (show ¬ ds.length ≤ 6 by omega), Bool.and_false]
        rfl
    · rw [if_neg (by simpa using c1)]
      (((try simp only [ID, E1, R1, N2, V_cons, bw, optI, tru, notB, V_bind, V_pure, V_guard, V_ite, V_some, V_getS, V_setS, getE, asgT, setE, setsE, kilE, wipeE, D.strips, D.strip, isNop, B1, S1, P1, List.map, List.append, List.replicate, List.set_cons_zero, List.set_cons_succ, List.getElem?_cons_zero, List.getElem?_cons_succ, List.cons_append, List.nil_append, Tg.slots, if_true, Bool.false_eq_true, if_false, reduceIte, List.length_cons, List.length_nil]); (try simp only [ne_eq, reduceCtorEq, not_false_eq_true, not_true_eq_false, true_or, or_true, false_or, or_false, true_and, and_true, isPath, G1, P1, Bool.and_true, Bool.true_and, Bool.and_self, Bool.not_true, Bool.not_false])); (try rw [(N1 _).1]); ((try simp only [ID, E1, R1, N2, V_cons, bw, optI, tru, notB, V_bind, V_pure, V_guard, V_ite, V_some, V_getS, V_setS, getE, asgT, setE, setsE, kilE, wipeE, D.strips, D.strip, isNop, B1, S1, P1, List.map, List.append, List.replicate, List.set_cons_zero, List.set_cons_succ, List.getElem?_cons_zero, List.getElem?_cons_succ, List.cons_append, List.nil_append, Tg.slots, if_true, Bool.false_eq_true, if_false, reduceIte, List.length_cons, List.length_nil]); (try simp only [ne_eq, reduceCtorEq, not_false_eq_true, not_true_eq_false, true_or, or_true, false_or, or_false, true_and, and_true, isPath, G1, P1, Bool.and_true, Bool.true_and, Bool.and_self, Bool.not_true, Bool.not_false])))
      refine out ?_ _ _ _
      rw [mvB_tup, decide_eq_false (show ¬ 1 ≤ ds.length by omega)]
      rfl
  | _ => (((try simp only [ID, E1, R1, N2, V_cons, bw, optI, tru, notB, V_bind, V_pure, V_guard, V_ite, V_some, V_getS, V_setS, getE, asgT, setE, setsE, kilE, wipeE, D.strips, D.strip, isNop, B1, S1, P1, List.map, List.append, List.replicate, List.set_cons_zero, List.set_cons_succ, List.getElem?_cons_zero, List.getElem?_cons_succ, List.cons_append, List.nil_append, Tg.slots, if_true, Bool.false_eq_true, if_false, reduceIte, List.length_cons, List.length_nil]); (try simp only [ne_eq, reduceCtorEq, not_false_eq_true, not_true_eq_false, true_or, or_true, false_or, or_false, true_and, and_true, isPath, G1, P1, Bool.and_true, Bool.true_and, Bool.and_self, Bool.not_true, Bool.not_false])); (try rw [(N1 _).1]); ((try simp only [ID, E1, R1, N2, V_cons, bw, optI, tru, notB, V_bind, V_pure, V_guard, V_ite, V_some, V_getS, V_setS, getE, asgT, setE, setsE, kilE, wipeE, D.strips, D.strip, isNop, B1, S1, P1, List.map, List.append, List.replicate, List.set_cons_zero, List.set_cons_succ, List.getElem?_cons_zero, List.getElem?_cons_succ, List.cons_append, List.nil_append, Tg.slots, if_true, Bool.false_eq_true, if_false, reduceIte, List.length_cons, List.length_nil]); (try simp only [ne_eq, reduceCtorEq, not_false_eq_true, not_true_eq_false, true_or, or_true, false_or, or_false, true_and, and_true, isPath, G1, P1, Bool.and_true, Bool.true_and, Bool.and_self, Bool.not_true, Bool.not_false]))); exact out rfl _ _ _
/-- a row of two fractions -/
def Row2 (d : D) : Prop := ∃ t a, d = .tup [.rat t, .rat a] ∧ Zb 300 300 t ∧ Zb 300 300 a
theorem Row2.gv {d : D} (h : Row2 d) : d.gv := by
  obtain ⟨t, a, rfl, g1, g2⟩ := h
  rw [gv_tup]
  intro x hx
  simp only [List.mem_cons, List.not_mem_nil, or_false] at hx
  rcases hx with rfl | rfl <;> rw [gvq] <;> assumption
theorem Row2.no {d : D} (h : Row2 d) : d.noOwn = true := by
  obtain ⟨t, a, rfl, _⟩ := h
  rfl
theorem hurtV {kk : Nat} {s : Strm} {Q : D → Strm → Prop} (hs : Sok s) {ds : List D} (h0 : 0 < ds.length) (h8 : ds.length ≤ 6) (hr : ∀ x ∈ ds, Row2 x) (q : ∀ d s', Sok s' → d.gv → Q d s') : V (callF Γ (kk + 5) "_law_hurt" [.strm, .tup ds]) s Q := by
  refine V_call (md := d__law_hurt) rfl rfl ?_
  simp only [d__law_hurt]
  have hlim : (LIM : Int) = 1000000 := rfl
  have hlim2 : LIM = 1000000 := rfl
  have no : D.noOwns ds = true := noOwns_all.mpr fun x hx => (hr x hx).no
  (((try simp only [ID, E1, R1, N2, V_cons, bw, optI, tru, notB, V_bind, V_pure, V_guard, V_ite, V_some, V_getS, V_setS, getE, asgT, setE, setsE, kilE, wipeE, D.strips, D.strip, isNop, B1, S1, P1, List.map, List.append, List.replicate, List.set_cons_zero, List.set_cons_succ, List.getElem?_cons_zero, List.getElem?_cons_succ, List.cons_append, List.nil_append, Tg.slots, if_true, Bool.false_eq_true, if_false, reduceIte, List.length_cons, List.length_nil]); (try simp only [ne_eq, reduceCtorEq, not_false_eq_true, not_true_eq_false, true_or, or_true, false_or, or_false, true_and, and_true, isPath, G1, P1, Bool.and_true, Bool.true_and, Bool.and_self, Bool.not_true, Bool.not_false])); (try rw [(N1 _).1]); ((try simp only [ID, E1, R1, N2, V_cons, bw, optI, tru, notB, V_bind, V_pure, V_guard, V_ite, V_some, V_getS, V_setS, getE, asgT, setE, setsE, kilE, wipeE, D.strips, D.strip, isNop, B1, S1, P1, List.map, List.append, List.replicate, List.set_cons_zero, List.set_cons_succ, List.getElem?_cons_zero, List.getElem?_cons_succ, List.cons_append, List.nil_append, Tg.slots, if_true, Bool.false_eq_true, if_false, reduceIte, List.length_cons, List.length_nil]); (try simp only [ne_eq, reduceCtorEq, not_false_eq_true, not_true_eq_false, true_or, or_true, false_or, or_false, true_and, and_true, isPath, G1, P1, Bool.and_true, Bool.true_and, Bool.and_self, Bool.not_true, Bool.not_false])))
  refine ⟨no, ?_⟩
  refine V_draw (k := kk + 3) rfl (by omega) (log_small (by omega)) hs fun at_ s1 k1 a0 a1 => ?_
  (((try simp only [ID, E1, R1, N2, V_cons, bw, optI, tru, notB, V_bind, V_pure, V_guard, V_ite, V_some, V_getS, V_setS, getE, asgT, setE, setsE, kilE, wipeE, D.strips, D.strip, isNop, B1, S1, P1, List.map, List.append, List.replicate, List.set_cons_zero, List.set_cons_succ, List.getElem?_cons_zero, List.getElem?_cons_succ, List.cons_append, List.nil_append, Tg.slots, if_true, Bool.false_eq_true, if_false, reduceIte, List.length_cons, List.length_nil]); (try simp only [ne_eq, reduceCtorEq, not_false_eq_true, not_true_eq_false, true_or, or_true, false_or, or_false, true_and, and_true, isPath, G1, P1, Bool.and_true, Bool.true_and, Bool.and_self, Bool.not_true, Bool.not_false])); (try rw [(N1 _).1]); ((try simp only [ID, E1, R1, N2, V_cons, bw, optI, tru, notB, V_bind, V_pure, V_guard, V_ite, V_some, V_getS, V_setS, getE, asgT, setE, setsE, kilE, wipeE, D.strips, D.strip, isNop, B1, S1, P1, List.map, List.append, List.replicate, List.set_cons_zero, List.set_cons_succ, List.getElem?_cons_zero, List.getElem?_cons_succ, List.cons_append, List.nil_append, Tg.slots, if_true, Bool.false_eq_true, if_false, reduceIte, List.length_cons, List.length_nil]); (try simp only [ne_eq, reduceCtorEq, not_false_eq_true, not_true_eq_false, true_or, or_true, false_or, or_false, true_and, and_true, isPath, G1, P1, Bool.and_true, Bool.true_and, Bool.and_self, Bool.not_true, Bool.not_false])))
  obtain ⟨row, hrow, eix⟩ := ix_someT a0 a1
  rw [eix]
  obtain ⟨t, a, rfl, zt, za⟩ := hr row hrow
  (((try simp only [ID, E1, R1, N2, V_cons, bw, optI, tru, notB, V_bind, V_pure, V_guard, V_ite, V_some, V_getS, V_setS, getE, asgT, setE, setsE, kilE, wipeE, D.strips, D.strip, isNop, B1, S1, P1, List.map, List.append, List.replicate, List.set_cons_zero, List.set_cons_succ, List.getElem?_cons_zero, List.getElem?_cons_succ, List.cons_append, List.nil_append, Tg.slots, if_true, Bool.false_eq_true, if_false, reduceIte, List.length_cons, List.length_nil]); (try simp only [ne_eq, reduceCtorEq, not_false_eq_true, not_true_eq_false, true_or, or_true, false_or, or_false, true_and, and_true, isPath, G1, P1, Bool.and_true, Bool.true_and, Bool.and_self, Bool.not_true, Bool.not_false])); (try rw [(N1 _).1]); ((try simp only [ID, E1, R1, N2, V_cons, bw, optI, tru, notB, V_bind, V_pure, V_guard, V_ite, V_some, V_getS, V_setS, getE, asgT, setE, setsE, kilE, wipeE, D.strips, D.strip, isNop, B1, S1, P1, List.map, List.append, List.replicate, List.set_cons_zero, List.set_cons_succ, List.getElem?_cons_zero, List.getElem?_cons_succ, List.cons_append, List.nil_append, Tg.slots, if_true, Bool.false_eq_true, if_false, reduceIte, List.length_cons, List.length_nil]); (try simp only [ne_eq, reduceCtorEq, not_false_eq_true, not_true_eq_false, true_or, or_true, false_or, or_false, true_and, and_true, isPath, G1, P1, Bool.and_true, Bool.true_and, Bool.and_self, Bool.not_true, Bool.not_false])))
  rw [if_neg (by decide)]
  refine ⟨by decide +kernel, ?_⟩
  (((try simp only [ID, E1, R1, N2, V_cons, bw, optI, tru, notB, V_bind, V_pure, V_guard, V_ite, V_some, V_getS, V_setS, getE, asgT, setE, setsE, kilE, wipeE, D.strips, D.strip, isNop, B1, S1, P1, List.map, List.append, List.replicate, List.set_cons_zero, List.set_cons_succ, List.getElem?_cons_zero, List.getElem?_cons_succ, List.cons_append, List.nil_append, Tg.slots, if_true, Bool.false_eq_true, if_false, reduceIte, List.length_cons, List.length_nil]); (try simp only [ne_eq, reduceCtorEq, not_false_eq_true, not_true_eq_false, true_or, or_true, false_or, or_false, true_and, and_true, isPath, G1, P1, Bool.and_true, Bool.true_and, Bool.and_self, Bool.not_true, Bool.not_false])); (try rw [(N1 _).1]); ((try simp only [ID, E1, R1, N2, V_cons, bw, optI, tru, notB, V_bind, V_pure, V_guard, V_ite, V_some, V_getS, V_setS, getE, asgT, setE, setsE, kilE, wipeE, D.strips, D.strip, isNop, B1, S1, P1, List.map, List.append, List.replicate, List.set_cons_zero, List.set_cons_succ, List.getElem?_cons_zero, List.getElem?_cons_succ, List.cons_append, List.nil_append, Tg.slots, if_true, Bool.false_eq_true, if_false, reduceIte, List.length_cons, List.length_nil]); (try simp only [ne_eq, reduceCtorEq, not_false_eq_true, not_true_eq_false, true_or, or_true, false_or, or_false, true_and, and_true, isPath, G1, P1, Bool.and_true, Bool.true_and, Bool.and_self, Bool.not_true, Bool.not_false])))
  refine V_draw (k := kk + 3) rfl (by decide) (by decide +kernel) k1 fun pick s2 k2 p0 p1 => ?_
  rw [(N1 _).1]
  ((try simp only [ID, E1, R1, N2, V_cons, bw, optI, tru, notB, V_bind, V_pure, V_guard, V_ite, V_some, V_getS, V_setS, getE, asgT, setE, setsE, kilE, wipeE, D.strips, D.strip, isNop, B1, S1, P1, List.map, List.append, List.replicate, List.set_cons_zero, List.set_cons_succ, List.getElem?_cons_zero, List.getElem?_cons_succ, List.cons_append, List.nil_append, Tg.slots, if_true, Bool.false_eq_true, if_false, reduceIte, List.length_cons, List.length_nil]); (try simp only [ne_eq, reduceCtorEq, not_false_eq_true, not_true_eq_false, true_or, or_true, false_or, or_false, true_and, and_true, isPath, G1, P1, Bool.and_true, Bool.true_and, Bool.and_self, Bool.not_true, Bool.not_false]))
  generalize hM : Nxt (callF Γ (kk + 4)) (MSs.cons (MS.frz 3) _) _ = M
  have g3 : ∀ x ∈ [D.rat t, D.rat a], x.gv := by
    intro x hx
    simp only [List.mem_cons, List.not_mem_nil, or_false] at hx
    rcases hx with rfl | rfl <;> rw [gvq] <;> assumption
  have z0 : Zb 300 300 ((0 : Int) : Rat) := (Zb.int (n := 1) (by decide)).mono (by decide) (by decide)
  have z1 : Zb 300 300 ((1 : Int) : Rat) := (Zb.int (n := 1) (by decide)).mono (by decide) (by decide)
  have z2 : Zb 300 300 ((2 : Int) : Rat) := (Zb.int (n := 2) (by decide)).mono (by decide) (by decide)
  have z3 : Zb 300 300 (Rat.divInt (-1) 3) := (Zb.divInt (a := 1) (b := 2) (by decide) (by decide) (by decide)).mono (by decide) (by decide)
  have fin : ∀ (d : D) (x4 x6 : Option D) s3, Sok s3 → d.gv → M (.nx [some .strm, some (.tup ds), some (.int at_), some d, x4, some (.int pick), x6]) s3 := by
    intro d x4 x6 s3 k3 gd
    rw [← hM]
    (((try simp only [ID, E1, R1, N2, V_cons, bw, optI, tru, notB, V_bind, V_pure, V_guard, V_ite, V_some, V_getS, V_setS, getE, asgT, setE, setsE, kilE, wipeE, D.strips, D.strip, isNop, B1, S1, P1, List.map, List.append, List.replicate, List.set_cons_zero, List.set_cons_succ, List.getElem?_cons_zero, List.getElem?_cons_succ, List.cons_append, List.nil_append, Tg.slots, if_true, Bool.false_eq_true, if_false, reduceIte, List.length_cons, List.length_nil]); (try simp only [ne_eq, reduceCtorEq, not_false_eq_true, not_true_eq_false, true_or, or_true, false_or, or_false, true_and, and_true, isPath, G1, P1, Bool.and_true, Bool.true_and, Bool.and_self, Bool.not_true, Bool.not_false])); (try rw [(N1 _).1]); ((try simp only [ID, E1, R1, N2, V_cons, bw, optI, tru, notB, V_bind, V_pure, V_guard, V_ite, V_some, V_getS, V_setS, getE, asgT, setE, setsE, kilE, wipeE, D.strips, D.strip, isNop, B1, S1, P1, List.map, List.append, List.replicate, List.set_cons_zero, List.set_cons_succ, List.getElem?_cons_zero, List.getElem?_cons_succ, List.cons_append, List.nil_append, Tg.slots, if_true, Bool.false_eq_true, if_false, reduceIte, List.length_cons, List.length_nil]); (try simp only [ne_eq, reduceCtorEq, not_false_eq_true, not_true_eq_false, true_or, or_true, false_or, or_false, true_and, and_true, isPath, G1, P1, Bool.and_true, Bool.true_and, Bool.and_self, Bool.not_true, Bool.not_false])))
    (((try simp only [ID, E1, R1, N2, V_cons, bw, optI, tru, notB, V_bind, V_pure, V_guard, V_ite, V_some, V_getS, V_setS, getE, asgT, setE, setsE, kilE, wipeE, D.strips, D.strip, isNop, B1, S1, P1, List.map, List.append, List.replicate, List.set_cons_zero, List.set_cons_succ, List.getElem?_cons_zero, List.getElem?_cons_succ, List.cons_append, List.nil_append, Tg.slots, if_true, Bool.false_eq_true, if_false, reduceIte, List.length_cons, List.length_nil]); (try simp only [ne_eq, reduceCtorEq, not_false_eq_true, not_true_eq_false, true_or, or_true, false_or, or_false, true_and, and_true, isPath, G1, P1, Bool.and_true, Bool.true_and, Bool.and_self, Bool.not_true, Bool.not_false])); (try rw [(N1 _).1]); ((try simp only [ID, E1, R1, N2, V_cons, bw, optI, tru, notB, V_bind, V_pure, V_guard, V_ite, V_some, V_getS, V_setS, getE, asgT, setE, setsE, kilE, wipeE, D.strips, D.strip, isNop, B1, S1, P1, List.map, List.append, List.replicate, List.set_cons_zero, List.set_cons_succ, List.getElem?_cons_zero, List.getElem?_cons_succ, List.cons_append, List.nil_append, Tg.slots, if_true, Bool.false_eq_true, if_false, reduceIte, List.length_cons, List.length_nil]); (try simp only [ne_eq, reduceCtorEq, not_false_eq_true, not_true_eq_false, true_or, or_true, false_or, or_false, true_and, and_true, isPath, G1, P1, Bool.and_true, Bool.true_and, Bool.and_self, Bool.not_true, Bool.not_false])))
    rw [sl_tup, sl_tup]
    have gs := gv_strip gd
    have ns := strip_noOwn (d := d)
    have l1 := cut_len (xs := ds) (lo := none) (hi := some at_)
    have l2 := cut_len (xs := ds) (lo := some (at_ + 1)) (hi := none)
    refine ⟨no, ?_⟩
    (((try simp only [ID, E1, R1, N2, V_cons, bw, optI, tru, notB, V_bind, V_pure, V_guard, V_ite, V_some, V_getS, V_setS, getE, asgT, setE, setsE, kilE, wipeE, D.strips, D.strip, isNop, B1, S1, P1, List.map, List.append, List.replicate, List.set_cons_zero, List.set_cons_succ, List.getElem?_cons_zero, List.getElem?_cons_succ, List.cons_append, List.nil_append, Tg.slots, if_true, Bool.false_eq_true, if_false, reduceIte, List.length_cons, List.length_nil]); (try simp only [ne_eq, reduceCtorEq, not_false_eq_true, not_true_eq_false, true_or, or_true, false_or, or_false, true_and, and_true, isPath, G1, P1, Bool.and_true, Bool.true_and, Bool.and_self, Bool.not_true, Bool.not_false])); (try rw [(N1 _).1]); ((try simp only [ID, E1, R1, N2, V_cons, bw, optI, tru, notB, V_bind, V_pure, V_guard, V_ite, V_some, V_getS, V_setS, getE, asgT, setE, setsE, kilE, wipeE, D.strips, D.strip, isNop, B1, S1, P1, List.map, List.append, List.replicate, List.set_cons_zero, List.set_cons_succ, List.getElem?_cons_zero, List.getElem?_cons_succ, List.cons_append, List.nil_append, Tg.slots, if_true, Bool.false_eq_true, if_false, reduceIte, List.length_cons, List.length_nil]); (try simp only [ne_eq, reduceCtorEq, not_false_eq_true, not_true_eq_false, true_or, or_true, false_or, or_false, true_and, and_true, isPath, G1, P1, Bool.and_true, Bool.true_and, Bool.and_self, Bool.not_true, Bool.not_false])))
    refine ⟨ns, ?_⟩
    (((try simp only [ID, E1, R1, N2, V_cons, bw, optI, tru, notB, V_bind, V_pure, V_guard, V_ite, V_some, V_getS, V_setS, getE, asgT, setE, setsE, kilE, wipeE, D.strips, D.strip, isNop, B1, S1, P1, List.map, List.append, List.replicate, List.set_cons_zero, List.set_cons_succ, List.getElem?_cons_zero, List.getElem?_cons_succ, List.cons_append, List.nil_append, Tg.slots, if_true, Bool.false_eq_true, if_false, reduceIte, List.length_cons, List.length_nil]); (try simp only [ne_eq, reduceCtorEq, not_false_eq_true, not_true_eq_false, true_or, or_true, false_or, or_false, true_and, and_true, isPath, G1, P1, Bool.and_true, Bool.true_and, Bool.and_self, Bool.not_true, Bool.not_false])); (try rw [(N1 _).1]); ((try simp only [ID, E1, R1, N2, V_cons, bw, optI, tru, notB, V_bind, V_pure, V_guard, V_ite, V_some, V_getS, V_setS, getE, asgT, setE, setsE, kilE, wipeE, D.strips, D.strip, isNop, B1, S1, P1, List.map, List.append, List.replicate, List.set_cons_zero, List.set_cons_succ, List.getElem?_cons_zero, List.getElem?_cons_succ, List.cons_append, List.nil_append, Tg.slots, if_true, Bool.false_eq_true, if_false, reduceIte, List.length_cons, List.length_nil]); (try simp only [ne_eq, reduceCtorEq, not_false_eq_true, not_true_eq_false, true_or, or_true, false_or, or_false, true_and, and_true, isPath, G1, P1, Bool.and_true, Bool.true_and, Bool.and_self, Bool.not_true, Bool.not_false])))
    refine ⟨by omega, no, ?_⟩
    (((try simp only [ID, E1, R1, N2, V_cons, bw, optI, tru, notB, V_bind, V_pure, V_guard, V_ite, V_some, V_getS, V_setS, getE, asgT, setE, setsE, kilE, wipeE, D.strips, D.strip, isNop, B1, S1, P1, List.map, List.append, List.replicate, List.set_cons_zero, List.set_cons_succ, List.getElem?_cons_zero, List.getElem?_cons_succ, List.cons_append, List.nil_append, Tg.slots, if_true, Bool.false_eq_true, if_false, reduceIte, List.length_cons, List.length_nil]); (try simp only [ne_eq, reduceCtorEq, not_false_eq_true, not_true_eq_false, true_or, or_true, false_or, or_false, true_and, and_true, isPath, G1, P1, Bool.and_true, Bool.true_and, Bool.and_self, Bool.not_true, Bool.not_false])); (try rw [(N1 _).1]); ((try simp only [ID, E1, R1, N2, V_cons, bw, optI, tru, notB, V_bind, V_pure, V_guard, V_ite, V_some, V_getS, V_setS, getE, asgT, setE, setsE, kilE, wipeE, D.strips, D.strip, isNop, B1, S1, P1, List.map, List.append, List.replicate, List.set_cons_zero, List.set_cons_succ, List.getElem?_cons_zero, List.getElem?_cons_succ, List.cons_append, List.nil_append, Tg.slots, if_true, Bool.false_eq_true, if_false, reduceIte, List.length_cons, List.length_nil]); (try simp only [ne_eq, reduceCtorEq, not_false_eq_true, not_true_eq_false, true_or, or_true, false_or, or_false, true_and, and_true, isPath, G1, P1, Bool.and_true, Bool.true_and, Bool.and_self, Bool.not_true, Bool.not_false])))
    refine ⟨by simp only [List.length_append, List.length_cons, List.length_nil]; omega, ?_⟩
    refine q _ s3 k3 (gv_tup.mpr fun x hx => ?_)
    rcases List.mem_append.mp hx with hx | hx
    · rcases List.mem_append.mp hx with hx | hx
      · exact (hr x (cut_mem x hx)).gv
      · rw [List.mem_singleton.mp hx]
        exact gs
    · exact (hr x (cut_mem x hx)).gv
  by_cases c1 : pick < 4
  · rw [if_pos (decide_eq_true c1)]
    (((try simp only [ID, E1, R1, N2, V_cons, bw, optI, tru, notB, V_bind, V_pure, V_guard, V_ite, V_some, V_getS, V_setS, getE, asgT, setE, setsE, kilE, wipeE, D.strips, D.strip, isNop, B1, S1, P1, List.map, List.append, List.replicate, List.set_cons_zero, List.set_cons_succ, List.getElem?_cons_zero, List.getElem?_cons_succ, List.cons_append, List.nil_append, Tg.slots, if_true, Bool.false_eq_true, if_false, reduceIte, List.length_cons, List.length_nil]); (try simp only [ne_eq, reduceCtorEq, not_false_eq_true, not_true_eq_false, true_or, or_true, false_or, or_false, true_and, and_true, isPath, G1, P1, Bool.and_true, Bool.true_and, Bool.and_self, Bool.not_true, Bool.not_false])); (try rw [(N1 _).1]); ((try simp only [ID, E1, R1, N2, V_cons, bw, optI, tru, notB, V_bind, V_pure, V_guard, V_ite, V_some, V_getS, V_setS, getE, asgT, setE, setsE, kilE, wipeE, D.strips, D.strip, isNop, B1, S1, P1, List.map, List.append, List.replicate, List.set_cons_zero, List.set_cons_succ, List.getElem?_cons_zero, List.getElem?_cons_succ, List.cons_append, List.nil_append, Tg.slots, if_true, Bool.false_eq_true, if_false, reduceIte, List.length_cons, List.length_nil]); (try simp only [ne_eq, reduceCtorEq, not_false_eq_true, not_true_eq_false, true_or, or_true, false_or, or_false, true_and, and_true, isPath, G1, P1, Bool.and_true, Bool.true_and, Bool.and_self, Bool.not_true, Bool.not_false])))
    refine V_draw (k := kk + 3) rfl (by decide) (by decide +kernel) k2 fun v s3 k3 v0 v1 => ?_
    (((try simp only [ID, E1, R1, N2, V_cons, bw, optI, tru, notB, V_bind, V_pure, V_guard, V_ite, V_some, V_getS, V_setS, getE, asgT, setE, setsE, kilE, wipeE, D.strips, D.strip, isNop, B1, S1, P1, List.map, List.append, List.replicate, List.set_cons_zero, List.set_cons_succ, List.getElem?_cons_zero, List.getElem?_cons_succ, List.cons_append, List.nil_append, Tg.slots, if_true, Bool.false_eq_true, if_false, reduceIte, List.length_cons, List.length_nil]); (try simp only [ne_eq, reduceCtorEq, not_false_eq_true, not_true_eq_false, true_or, or_true, false_or, or_false, true_and, and_true, isPath, G1, P1, Bool.and_true, Bool.true_and, Bool.and_self, Bool.not_true, Bool.not_false])); (try rw [(N1 _).1]); ((try simp only [ID, E1, R1, N2, V_cons, bw, optI, tru, notB, V_bind, V_pure, V_guard, V_ite, V_some, V_getS, V_setS, getE, asgT, setE, setsE, kilE, wipeE, D.strips, D.strip, isNop, B1, S1, P1, List.map, List.append, List.replicate, List.set_cons_zero, List.set_cons_succ, List.getElem?_cons_zero, List.getElem?_cons_succ, List.cons_append, List.nil_append, Tg.slots, if_true, Bool.false_eq_true, if_false, reduceIte, List.length_cons, List.length_nil]); (try simp only [ne_eq, reduceCtorEq, not_false_eq_true, not_true_eq_false, true_or, or_true, false_or, or_false, true_and, and_true, isPath, G1, P1, Bool.and_true, Bool.true_and, Bool.and_self, Bool.not_true, Bool.not_false])))
    (((try simp only [ID, E1, R1, N2, V_cons, bw, optI, tru, notB, V_bind, V_pure, V_guard, V_ite, V_some, V_getS, V_setS, getE, asgT, setE, setsE, kilE, wipeE, D.strips, D.strip, isNop, B1, S1, P1, List.map, List.append, List.replicate, List.set_cons_zero, List.set_cons_succ, List.getElem?_cons_zero, List.getElem?_cons_succ, List.cons_append, List.nil_append, Tg.slots, if_true, Bool.false_eq_true, if_false, reduceIte, List.length_cons, List.length_nil]); (try simp only [ne_eq, reduceCtorEq, not_false_eq_true, not_true_eq_false, true_or, or_true, false_or, or_false, true_and, and_true, isPath, G1, P1, Bool.and_true, Bool.true_and, Bool.and_self, Bool.not_true, Bool.not_false])); (try rw [(N1 _).1]); ((try simp only [ID, E1, R1, N2, V_cons, bw, optI, tru, notB, V_bind, V_pure, V_guard, V_ite, V_some, V_getS, V_setS, getE, asgT, setE, setsE, kilE, wipeE, D.strips, D.strip, isNop, B1, S1, P1, List.map, List.append, List.replicate, List.set_cons_zero, List.set_cons_succ, List.getElem?_cons_zero, List.getElem?_cons_succ, List.cons_append, List.nil_append, Tg.slots, if_true, Bool.false_eq_true, if_false, reduceIte, List.length_cons, List.length_nil]); (try simp only [ne_eq, reduceCtorEq, not_false_eq_true, not_true_eq_false, true_or, or_true, false_or, or_false, true_and, and_true, isPath, G1, P1, Bool.and_true, Bool.true_and, Bool.and_self, Bool.not_true, Bool.not_false])))
    rw [sl_tup, sl_tup]
    have l1 := cut_len (xs := [D.rat t, D.rat a]) (lo := none) (hi := some v)
    have l2 := cut_len (xs := [D.rat t, D.rat a]) (lo := some (v + 1)) (hi := none)
    simp only [List.length_cons, List.length_nil] at l1 l2
    (((try simp only [ID, E1, R1, N2, V_cons, bw, optI, tru, notB, V_bind, V_pure, V_guard, V_ite, V_some, V_getS, V_setS, getE, asgT, setE, setsE, kilE, wipeE, D.strips, D.strip, isNop, B1, S1, P1, List.map, List.append, List.replicate, List.set_cons_zero, List.set_cons_succ, List.getElem?_cons_zero, List.getElem?_cons_succ, List.cons_append, List.nil_append, Tg.slots, if_true, Bool.false_eq_true, if_false, reduceIte, List.length_cons, List.length_nil]); (try simp only [ne_eq, reduceCtorEq, not_false_eq_true, not_true_eq_false, true_or, or_true, false_or, or_false, true_and, and_true, isPath, G1, P1, Bool.and_true, Bool.true_and, Bool.and_self, Bool.not_true, Bool.not_false])); (try rw [(N1 _).1]); ((try simp only [ID, E1, R1, N2, V_cons, bw, optI, tru, notB, V_bind, V_pure, V_guard, V_ite, V_some, V_getS, V_setS, getE, asgT, setE, setsE, kilE, wipeE, D.strips, D.strip, isNop, B1, S1, P1, List.map, List.append, List.replicate, List.set_cons_zero, List.set_cons_succ, List.getElem?_cons_zero, List.getElem?_cons_succ, List.cons_append, List.nil_append, Tg.slots, if_true, Bool.false_eq_true, if_false, reduceIte, List.length_cons, List.length_nil]); (try simp only [ne_eq, reduceCtorEq, not_false_eq_true, not_true_eq_false, true_or, or_true, false_or, or_false, true_and, and_true, isPath, G1, P1, Bool.and_true, Bool.true_and, Bool.and_self, Bool.not_true, Bool.not_false])))
    refine V_draw (k := kk + 3) rfl (by decide) (by decide +kernel) k3 fun u s4 k4 u0 u1 => ?_
    obtain ⟨x, hx, e⟩ := ix_some (o := false) (ds := [.int 0, .int 1, .bl true, .non, .str (PySem.Str.ofString "1"), .tup [], .rat ((0 : Int) : Rat), .rat (Rat.divInt (-1) 3), .rat ((1 : Int) : Rat), .tup [.int 1, .int 1], .lst false [], .rat ((2 : Int) : Rat)]) u0 (by simpa using u1)
    have gx : x.gv := by
      refine gvs_all.mp ?_ x hx
      simp only [D.gvs, D.gv, and_true, true_and]
      exact ⟨z0, z3, z1, z2⟩
    have nx : x.noOwn = true := noOwns_all.mp (by simp only [G1, Bool.and_self]) x hx
    rw [e]
    (((try simp only [ID, E1, R1, N2, V_cons, bw, optI, tru, notB, V_bind, V_pure, V_guard, V_ite, V_some, V_getS, V_setS, getE, asgT, setE, setsE, kilE, wipeE, D.strips, D.strip, isNop, B1, S1, P1, List.map, List.append, List.replicate, List.set_cons_zero, List.set_cons_succ, List.getElem?_cons_zero, List.getElem?_cons_succ, List.cons_append, List.nil_append, Tg.slots, if_true, Bool.false_eq_true, if_false, reduceIte, List.length_cons, List.length_nil]); (try simp only [ne_eq, reduceCtorEq, not_false_eq_true, not_true_eq_false, true_or, or_true, false_or, or_false, true_and, and_true, isPath, G1, P1, Bool.and_true, Bool.true_and, Bool.and_self, Bool.not_true, Bool.not_false])); (try rw [(N1 _).1]); ((try simp only [ID, E1, R1, N2, V_cons, bw, optI, tru, notB, V_bind, V_pure, V_guard, V_ite, V_some, V_getS, V_setS, getE, asgT, setE, setsE, kilE, wipeE, D.strips, D.strip, isNop, B1, S1, P1, List.map, List.append, List.replicate, List.set_cons_zero, List.set_cons_succ, List.getElem?_cons_zero, List.getElem?_cons_succ, List.cons_append, List.nil_append, Tg.slots, if_true, Bool.false_eq_true, if_false, reduceIte, List.length_cons, List.length_nil]); (try simp only [ne_eq, reduceCtorEq, not_false_eq_true, not_true_eq_false, true_or, or_true, false_or, or_false, true_and, and_true, isPath, G1, P1, Bool.and_true, Bool.true_and, Bool.and_self, Bool.not_true, Bool.not_false])))
    refine ⟨nx, ?_⟩
    (((try simp only [ID, E1, R1, N2, V_cons, bw, optI, tru, notB, V_bind, V_pure, V_guard, V_ite, V_some, V_getS, V_setS, getE, asgT, setE, setsE, kilE, wipeE, D.strips, D.strip, isNop, B1, S1, P1, List.map, List.append, List.replicate, List.set_cons_zero, List.set_cons_succ, List.getElem?_cons_zero, List.getElem?_cons_succ, List.cons_append, List.nil_append, Tg.slots, if_true, Bool.false_eq_true, if_false, reduceIte, List.length_cons, List.length_nil]); (try simp only [ne_eq, reduceCtorEq, not_false_eq_true, not_true_eq_false, true_or, or_true, false_or, or_false, true_and, and_true, isPath, G1, P1, Bool.and_true, Bool.true_and, Bool.and_self, Bool.not_true, Bool.not_false])); (try rw [(N1 _).1]); ((try simp only [ID, E1, R1, N2, V_cons, bw, optI, tru, notB, V_bind, V_pure, V_guard, V_ite, V_some, V_getS, V_setS, getE, asgT, setE, setsE, kilE, wipeE, D.strips, D.strip, isNop, B1, S1, P1, List.map, List.append, List.replicate, List.set_cons_zero, List.set_cons_succ, List.getElem?_cons_zero, List.getElem?_cons_succ, List.cons_append, List.nil_append, Tg.slots, if_true, Bool.false_eq_true, if_false, reduceIte, List.length_cons, List.length_nil]); (try simp only [ne_eq, reduceCtorEq, not_false_eq_true, not_true_eq_false, true_or, or_true, false_or, or_false, true_and, and_true, isPath, G1, P1, Bool.and_true, Bool.true_and, Bool.and_self, Bool.not_true, Bool.not_false])))
    refine ⟨by omega, ?_⟩
    (((try simp only [ID, E1, R1, N2, V_cons, bw, optI, tru, notB, V_bind, V_pure, V_guard, V_ite, V_some, V_getS, V_setS, getE, asgT, setE, setsE, kilE, wipeE, D.strips, D.strip, isNop, B1, S1, P1, List.map, List.append, List.replicate, List.set_cons_zero, List.set_cons_succ, List.getElem?_cons_zero, List.getElem?_cons_succ, List.cons_append, List.nil_append, Tg.slots, if_true, Bool.false_eq_true, if_false, reduceIte, List.length_cons, List.length_nil]); (try simp only [ne_eq, reduceCtorEq, not_false_eq_true, not_true_eq_false, true_or, or_true, false_or, or_false, true_and, and_true, isPath, G1, P1, Bool.and_true, Bool.true_and, Bool.and_self, Bool.not_true, Bool.not_false])); (try rw [(N1 _).1]); ((try simp only [ID, E1, R1, N2, V_cons, bw, optI, tru, notB, V_bind, V_pure, V_guard, V_ite, V_some, V_getS, V_setS, getE, asgT, setE, setsE, kilE, wipeE, D.strips, D.strip, isNop, B1, S1, P1, List.map, List.append, List.replicate, List.set_cons_zero, List.set_cons_succ, List.getElem?_cons_zero, List.getElem?_cons_succ, List.cons_append, List.nil_append, Tg.slots, if_true, Bool.false_eq_true, if_false, reduceIte, List.length_cons, List.length_nil]); (try simp only [ne_eq, reduceCtorEq, not_false_eq_true, not_true_eq_false, true_or, or_true, false_or, or_false, true_and, and_true, isPath, G1, P1, Bool.and_true, Bool.true_and, Bool.and_self, Bool.not_true, Bool.not_false])))
    refine ⟨by simp only [List.length_append, List.length_cons, List.length_nil]; omega, ?_⟩
    refine fin _ _ _ s4 k4 (gv_tup.mpr fun y hy => ?_)
    rcases List.mem_append.mp hy with hy | hy
    · rcases List.mem_append.mp hy with hy | hy
      · exact g3 y (cut_mem y hy)
      · rw [List.mem_singleton.mp hy]
        exact gx
    · exact g3 y (cut_mem y hy)
  · rw [if_neg (by simpa using c1)]
    (((try simp only [ID, E1, R1, N2, V_cons, bw, optI, tru, notB, V_bind, V_pure, V_guard, V_ite, V_some, V_getS, V_setS, getE, asgT, setE, setsE, kilE, wipeE, D.strips, D.strip, isNop, B1, S1, P1, List.map, List.append, List.replicate, List.set_cons_zero, List.set_cons_succ, List.getElem?_cons_zero, List.getElem?_cons_succ, List.cons_append, List.nil_append, Tg.slots, if_true, Bool.false_eq_true, if_false, reduceIte, List.length_cons, List.length_nil]); (try simp only [ne_eq, reduceCtorEq, not_false_eq_true, not_true_eq_false, true_or, or_true, false_or, or_false, true_and, and_true, isPath, G1, P1, Bool.and_true, Bool.true_and, Bool.and_self, Bool.not_true, Bool.not_false])); (try rw [(N1 _).1]); ((try simp only [ID, E1, R1, N2, V_cons, bw, optI, tru, notB, V_bind, V_pure, V_guard, V_ite, V_some, V_getS, V_setS, getE, asgT, setE, setsE, kilE, wipeE, D.strips, D.strip, isNop, B1, S1, P1, List.map, List.append, List.replicate, List.set_cons_zero, List.set_cons_succ, List.getElem?_cons_zero, List.getElem?_cons_succ, List.cons_append, List.nil_append, Tg.slots, if_true, Bool.false_eq_true, if_false, reduceIte, List.length_cons, List.length_nil]); (try simp only [ne_eq, reduceCtorEq, not_false_eq_true, not_true_eq_false, true_or, or_true, false_or, or_false, true_and, and_true, isPath, G1, P1, Bool.and_true, Bool.true_and, Bool.and_self, Bool.not_true, Bool.not_false])))
    by_cases c2 : pick = 4
    · rw [if_pos (by simpa using c2)]
      (((try simp only [ID, E1, R1, N2, V_cons, bw, optI, tru, notB, V_bind, V_pure, V_guard, V_ite, V_some, V_getS, V_setS, getE, asgT, setE, setsE, kilE, wipeE, D.strips, D.strip, isNop, B1, S1, P1, List.map, List.append, List.replicate, List.set_cons_zero, List.set_cons_succ, List.getElem?_cons_zero, List.getElem?_cons_succ, List.cons_append, List.nil_append, Tg.slots, if_true, Bool.false_eq_true, if_false, reduceIte, List.length_cons, List.length_nil]); (try simp only [ne_eq, reduceCtorEq, not_false_eq_true, not_true_eq_false, true_or, or_true, false_or, or_false, true_and, and_true, isPath, G1, P1, Bool.and_true, Bool.true_and, Bool.and_self, Bool.not_true, Bool.not_false])); (try rw [(N1 _).1]); ((try simp only [ID, E1, R1, N2, V_cons, bw, optI, tru, notB, V_bind, V_pure, V_guard, V_ite, V_some, V_getS, V_setS, getE, asgT, setE, setsE, kilE, wipeE, D.strips, D.strip, isNop, B1, S1, P1, List.map, List.append, List.replicate, List.set_cons_zero, List.set_cons_succ, List.getElem?_cons_zero, List.getElem?_cons_succ, List.cons_append, List.nil_append, Tg.slots, if_true, Bool.false_eq_true, if_false, reduceIte, List.length_cons, List.length_nil]); (try simp only [ne_eq, reduceCtorEq, not_false_eq_true, not_true_eq_false, true_or, or_true, false_or, or_false, true_and, and_true, isPath, G1, P1, Bool.and_true, Bool.true_and, Bool.and_self, Bool.not_true, Bool.not_false])))
      rw [sl_tup]
      (((try simp only [ID, E1, R1, N2, V_cons, bw, optI, tru, notB, V_bind, V_pure, V_guard, V_ite, V_some, V_getS, V_setS, getE, asgT, setE, setsE, kilE, wipeE, D.strips, D.strip, isNop, B1, S1, P1, List.map, List.append, List.replicate, List.set_cons_zero, List.set_cons_succ, List.getElem?_cons_zero, List.getElem?_cons_succ, List.cons_append, List.nil_append, Tg.slots, if_true, Bool.false_eq_true, if_false, reduceIte, List.length_cons, List.length_nil]); (try simp only [ne_eq, reduceCtorEq, not_false_eq_true, not_true_eq_false, true_or, or_true, false_or, or_false, true_and, and_true, isPath, G1, P1, Bool.and_true, Bool.true_and, Bool.and_self, Bool.not_true, Bool.not_false])); (try rw [(N1 _).1]); ((try simp only [ID, E1, R1, N2, V_cons, bw, optI, tru, notB, V_bind, V_pure, V_guard, V_ite, V_some, V_getS, V_setS, getE, asgT, setE, setsE, kilE, wipeE, D.strips, D.strip, isNop, B1, S1, P1, List.map, List.append, List.replicate, List.set_cons_zero, List.set_cons_succ, List.getElem?_cons_zero, List.getElem?_cons_succ, List.cons_append, List.nil_append, Tg.slots, if_true, Bool.false_eq_true, if_false, reduceIte, List.length_cons, List.length_nil]); (try simp only [ne_eq, reduceCtorEq, not_false_eq_true, not_true_eq_false, true_or, or_true, false_or, or_false, true_and, and_true, isPath, G1, P1, Bool.and_true, Bool.true_and, Bool.and_self, Bool.not_true, Bool.not_false])))
      refine ⟨by omega, ?_⟩
      refine V_draw (k := kk + 3) rfl (by decide) (by decide +kernel) k2 fun v s3 k3 v0 v1 => ?_
      obtain ⟨x, hx, e⟩ := ix_some (o := true) (ds := [.tup (cut [.rat t, .rat a] none (some 1)), .tup [.rat t, .rat a, .rat ((0 : Int) : Rat)], .tup [], .lst true [.rat t, .rat a], .non]) v0 (by simpa using v1)
      have gx : x.gv := by
        refine gvs_all.mp ?_ x hx
        simp only [D.gvs, D.gv, and_true, true_and]
        exact ⟨gvs_all.mpr fun y hy => g3 y (cut_mem y hy), zt, za, z0⟩
      rw [e]
      (((try simp only [ID, E1, R1, N2, V_cons, bw, optI, tru, notB, V_bind, V_pure, V_guard, V_ite, V_some, V_getS, V_setS, getE, asgT, setE, setsE, kilE, wipeE, D.strips, D.strip, isNop, B1, S1, P1, List.map, List.append, List.replicate, List.set_cons_zero, List.set_cons_succ, List.getElem?_cons_zero, List.getElem?_cons_succ, List.cons_append, List.nil_append, Tg.slots, if_true, Bool.false_eq_true, if_false, reduceIte, List.length_cons, List.length_nil]); (try simp only [ne_eq, reduceCtorEq, not_false_eq_true, not_true_eq_false, true_or, or_true, false_or, or_false, true_and, and_true, isPath, G1, P1, Bool.and_true, Bool.true_and, Bool.and_self, Bool.not_true, Bool.not_false])); (try rw [(N1 _).1]); ((try simp only [ID, E1, R1, N2, V_cons, bw, optI, tru, notB, V_bind, V_pure, V_guard, V_ite, V_some, V_getS, V_setS, getE, asgT, setE, setsE, kilE, wipeE, D.strips, D.strip, isNop, B1, S1, P1, List.map, List.append, List.replicate, List.set_cons_zero, List.set_cons_succ, List.getElem?_cons_zero, List.getElem?_cons_succ, List.cons_append, List.nil_append, Tg.slots, if_true, Bool.false_eq_true, if_false, reduceIte, List.length_cons, List.length_nil]); (try simp only [ne_eq, reduceCtorEq, not_false_eq_true, not_true_eq_false, true_or, or_true, false_or, or_false, true_and, and_true, isPath, G1, P1, Bool.and_true, Bool.true_and, Bool.and_self, Bool.not_true, Bool.not_false])))
      exact fin _ _ none s3 k3 gx
    · rw [if_neg (by simpa using c2)]
      (((try simp only [ID, E1, R1, N2, V_cons, bw, optI, tru, notB, V_bind, V_pure, V_guard, V_ite, V_some, V_getS, V_setS, getE, asgT, setE, setsE, kilE, wipeE, D.strips, D.strip, isNop, B1, S1, P1, List.map, List.append, List.replicate, List.set_cons_zero, List.set_cons_succ, List.getElem?_cons_zero, List.getElem?_cons_succ, List.cons_append, List.nil_append, Tg.slots, if_true, Bool.false_eq_true, if_false, reduceIte, List.length_cons, List.length_nil]); (try simp only [ne_eq, reduceCtorEq, not_false_eq_true, not_true_eq_false, true_or, or_true, false_or, or_false, true_and, and_true, isPath, G1, P1, Bool.and_true, Bool.true_and, Bool.and_self, Bool.not_true, Bool.not_false])); (try rw [(N1 _).1]); ((try simp only [ID, E1, R1, N2, V_cons, bw, optI, tru, notB, V_bind, V_pure, V_guard, V_ite, V_some, V_getS, V_setS, getE, asgT, setE, setsE, kilE, wipeE, D.strips, D.strip, isNop, B1, S1, P1, List.map, List.append, List.replicate, List.set_cons_zero, List.set_cons_succ, List.getElem?_cons_zero, List.getElem?_cons_succ, List.cons_append, List.nil_append, Tg.slots, if_true, Bool.false_eq_true, if_false, reduceIte, List.length_cons, List.length_nil]); (try simp only [ne_eq, reduceCtorEq, not_false_eq_true, not_true_eq_false, true_or, or_true, false_or, or_false, true_and, and_true, isPath, G1, P1, Bool.and_true, Bool.true_and, Bool.and_self, Bool.not_true, Bool.not_false])))
      by_cases c3 : pick = 5
      · rw [if_pos (by simpa using c3)]
        (((try simp only [ID, E1, R1, N2, V_cons, bw, optI, tru, notB, V_bind, V_pure, V_guard, V_ite, V_some, V_getS, V_setS, getE, asgT, setE, setsE, kilE, wipeE, D.strips, D.strip, isNop, B1, S1, P1, List.map, List.append, List.replicate, List.set_cons_zero, List.set_cons_succ, List.getElem?_cons_zero, List.getElem?_cons_succ, List.cons_append, List.nil_append, Tg.slots, if_true, Bool.false_eq_true, if_false, reduceIte, List.length_cons, List.length_nil]); (try simp only [ne_eq, reduceCtorEq, not_false_eq_true, not_true_eq_false, true_or, or_true, false_or, or_false, true_and, and_true, isPath, G1, P1, Bool.and_true, Bool.true_and, Bool.and_self, Bool.not_true, Bool.not_false])); (try rw [(N1 _).1]); ((try simp only [ID, E1, R1, N2, V_cons, bw, optI, tru, notB, V_bind, V_pure, V_guard, V_ite, V_some, V_getS, V_setS, getE, asgT, setE, setsE, kilE, wipeE, D.strips, D.strip, isNop, B1, S1, P1, List.map, List.append, List.replicate, List.set_cons_zero, List.set_cons_succ, List.getElem?_cons_zero, List.getElem?_cons_succ, List.cons_append, List.nil_append, Tg.slots, if_true, Bool.false_eq_true, if_false, reduceIte, List.length_cons, List.length_nil]); (try simp only [ne_eq, reduceCtorEq, not_false_eq_true, not_true_eq_false, true_or, or_true, false_or, or_false, true_and, and_true, isPath, G1, P1, Bool.and_true, Bool.true_and, Bool.and_self, Bool.not_true, Bool.not_false])))
        refine ⟨no, ?_⟩
        obtain ⟨y, hy, ey⟩ := ix_someT (ds := ds) (v := 0) (by decide) (by omega)
        rw [ey]
        (((try simp only [ID, E1, R1, N2, V_cons, bw, optI, tru, notB, V_bind, V_pure, V_guard, V_ite, V_some, V_getS, V_setS, getE, asgT, setE, setsE, kilE, wipeE, D.strips, D.strip, isNop, B1, S1, P1, List.map, List.append, List.replicate, List.set_cons_zero, List.set_cons_succ, List.getElem?_cons_zero, List.getElem?_cons_succ, List.cons_append, List.nil_append, Tg.slots, if_true, Bool.false_eq_true, if_false, reduceIte, List.length_cons, List.length_nil]); (try simp only [ne_eq, reduceCtorEq, not_false_eq_true, not_true_eq_false, true_or, or_true, false_or, or_false, true_and, and_true, isPath, G1, P1, Bool.and_true, Bool.true_and, Bool.and_self, Bool.not_true, Bool.not_false])); (try rw [(N1 _).1]); ((try simp only [ID, E1, R1, N2, V_cons, bw, optI, tru, notB, V_bind, V_pure, V_guard, V_ite, V_some, V_getS, V_setS, getE, asgT, setE, setsE, kilE, wipeE, D.strips, D.strip, isNop, B1, S1, P1, List.map, List.append, List.replicate, List.set_cons_zero, List.set_cons_succ, List.getElem?_cons_zero, List.getElem?_cons_succ, List.cons_append, List.nil_append, Tg.slots, if_true, Bool.false_eq_true, if_false, reduceIte, List.length_cons, List.length_nil]); (try simp only [ne_eq, reduceCtorEq, not_false_eq_true, not_true_eq_false, true_or, or_true, false_or, or_false, true_and, and_true, isPath, G1, P1, Bool.and_true, Bool.true_and, Bool.and_self, Bool.not_true, Bool.not_false])))
        refine ⟨(hr y hy).no, ?_⟩
        refine V_draw (k := kk + 3) rfl (by decide) (by decide +kernel) k2 fun v s3 k3 v0 v1 => ?_
        obtain ⟨x, hx, e⟩ := ix_some (o := true) (ds := [.lst true ds, .tup [], .non, .int 3, y, .str (PySem.Str.ofString "move")]) v0 (by simpa using v1)
        have gx : x.gv := by
          refine gvs_all.mp ?_ x hx
          simp only [D.gvs, D.gv, and_true, true_and]
          exact (hr y hy).gv
        rw [e]
        (((try simp only [ID, E1, R1, N2, V_cons, bw, optI, tru, notB, V_bind, V_pure, V_guard, V_ite, V_some, V_getS, V_setS, getE, asgT, setE, setsE, kilE, wipeE, D.strips, D.strip, isNop, B1, S1, P1, List.map, List.append, List.replicate, List.set_cons_zero, List.set_cons_succ, List.getElem?_cons_zero, List.getElem?_cons_succ, List.cons_append, List.nil_append, Tg.slots, if_true, Bool.false_eq_true, if_false, reduceIte, List.length_cons, List.length_nil]); (try simp only [ne_eq, reduceCtorEq, not_false_eq_true, not_true_eq_false, true_or, or_true, false_or, or_false, true_and, and_true, isPath, G1, P1, Bool.and_true, Bool.true_and, Bool.and_self, Bool.not_true, Bool.not_false])); (try rw [(N1 _).1]); ((try simp only [ID, E1, R1, N2, V_cons, bw, optI, tru, notB, V_bind, V_pure, V_guard, V_ite, V_some, V_getS, V_setS, getE, asgT, setE, setsE, kilE, wipeE, D.strips, D.strip, isNop, B1, S1, P1, List.map, List.append, List.replicate, List.set_cons_zero, List.set_cons_succ, List.getElem?_cons_zero, List.getElem?_cons_succ, List.cons_append, List.nil_append, Tg.slots, if_true, Bool.false_eq_true, if_false, reduceIte, List.length_cons, List.length_nil]); (try simp only [ne_eq, reduceCtorEq, not_false_eq_true, not_true_eq_false, true_or, or_true, false_or, or_false, true_and, and_true, isPath, G1, P1, Bool.and_true, Bool.true_and, Bool.and_self, Bool.not_true, Bool.not_false])))
        exact q _ s3 k3 gx
      · rw [if_neg (by simpa using c3)]
        (((try simp only [ID, E1, R1, N2, V_cons, bw, optI, tru, notB, V_bind, V_pure, V_guard, V_ite, V_some, V_getS, V_setS, getE, asgT, setE, setsE, kilE, wipeE, D.strips, D.strip, isNop, B1, S1, P1, List.map, List.append, List.replicate, List.set_cons_zero, List.set_cons_succ, List.getElem?_cons_zero, List.getElem?_cons_succ, List.cons_append, List.nil_append, Tg.slots, if_true, Bool.false_eq_true, if_false, reduceIte, List.length_cons, List.length_nil]); (try simp only [ne_eq, reduceCtorEq, not_false_eq_true, not_true_eq_false, true_or, or_true, false_or, or_false, true_and, and_true, isPath, G1, P1, Bool.and_true, Bool.true_and, Bool.and_self, Bool.not_true, Bool.not_false])); (try rw [(N1 _).1]); ((try simp only [ID, E1, R1, N2, V_cons, bw, optI, tru, notB, V_bind, V_pure, V_guard, V_ite, V_some, V_getS, V_setS, getE, asgT, setE, setsE, kilE, wipeE, D.strips, D.strip, isNop, B1, S1, P1, List.map, List.append, List.replicate, List.set_cons_zero, List.set_cons_succ, List.getElem?_cons_zero, List.getElem?_cons_succ, List.cons_append, List.nil_append, Tg.slots, if_true, Bool.false_eq_true, if_false, reduceIte, List.length_cons, List.length_nil]); (try simp only [ne_eq, reduceCtorEq, not_false_eq_true, not_true_eq_false, true_or, or_true, false_or, or_false, true_and, and_true, isPath, G1, P1, Bool.and_true, Bool.true_and, Bool.and_self, Bool.not_true, Bool.not_false])))
        by_cases c4 : pick = 6
        · rw [if_pos (by simpa using c4)]
          (((try simp only [ID, E1, R1, N2, V_cons, bw, optI, tru, notB, V_bind, V_pure, V_guard, V_ite, V_some, V_getS, V_setS, getE, asgT, setE, setsE, kilE, wipeE, D.strips, D.strip, isNop, B1, S1, P1, List.map, List.append, List.replicate, List.set_cons_zero, List.set_cons_succ, List.getElem?_cons_zero, List.getElem?_cons_succ, List.cons_append, List.nil_append, Tg.slots, if_true, Bool.false_eq_true, if_false, reduceIte, List.length_cons, List.length_nil]); (try simp only [ne_eq, reduceCtorEq, not_false_eq_true, not_true_eq_false, true_or, or_true, false_or, or_false, true_and, and_true, isPath, G1, P1, Bool.and_true, Bool.true_and, Bool.and_self, Bool.not_true, Bool.not_false])); (try rw [(N1 _).1]); ((try simp only [ID, E1, R1, N2, V_cons, bw, optI, tru, notB, V_bind, V_pure, V_guard, V_ite, V_some, V_getS, V_setS, getE, asgT, setE, setsE, kilE, wipeE, D.strips, D.strip, isNop, B1, S1, P1, List.map, List.append, List.replicate, List.set_cons_zero, List.set_cons_succ, List.getElem?_cons_zero, List.getElem?_cons_succ, List.cons_append, List.nil_append, Tg.slots, if_true, Bool.false_eq_true, if_false, reduceIte, List.length_cons, List.length_nil]); (try simp only [ne_eq, reduceCtorEq, not_false_eq_true, not_true_eq_false, true_or, or_true, false_or, or_false, true_and, and_true, isPath, G1, P1, Bool.and_true, Bool.true_and, Bool.and_self, Bool.not_true, Bool.not_false])))
          refine ⟨no, ?_⟩
          refine V_draw (k := kk + 3) rfl (by decide) (by decide +kernel) k2 fun v s3 k3 v0 v1 => ?_
          (((try simp only [ID, E1, R1, N2, V_cons, bw, optI, tru, notB, V_bind, V_pure, V_guard, V_ite, V_some, V_getS, V_setS, getE, asgT, setE, setsE, kilE, wipeE, D.strips, D.strip, isNop, B1, S1, P1, List.map, List.append, List.replicate, List.set_cons_zero, List.set_cons_succ, List.getElem?_cons_zero, List.getElem?_cons_succ, List.cons_append, List.nil_append, Tg.slots, if_true, Bool.false_eq_true, if_false, reduceIte, List.length_cons, List.length_nil]); (try simp only [ne_eq, reduceCtorEq, not_false_eq_true, not_true_eq_false, true_or, or_true, false_or, or_false, true_and, and_true, isPath, G1, P1, Bool.and_true, Bool.true_and, Bool.and_self, Bool.not_true, Bool.not_false])); (try rw [(N1 _).1]); ((try simp only [ID, E1, R1, N2, V_cons, bw, optI, tru, notB, V_bind, V_pure, V_guard, V_ite, V_some, V_getS, V_setS, getE, asgT, setE, setsE, kilE, wipeE, D.strips, D.strip, isNop, B1, S1, P1, List.map, List.append, List.replicate, List.set_cons_zero, List.set_cons_succ, List.getElem?_cons_zero, List.getElem?_cons_succ, List.cons_append, List.nil_append, Tg.slots, if_true, Bool.false_eq_true, if_false, reduceIte, List.length_cons, List.length_nil]); (try simp only [ne_eq, reduceCtorEq, not_false_eq_true, not_true_eq_false, true_or, or_true, false_or, or_false, true_and, and_true, isPath, G1, P1, Bool.and_true, Bool.true_and, Bool.and_self, Bool.not_true, Bool.not_false])))
          have em : binD .mul (.tup [.tup [.rat ((1 : Int) : Rat), .rat ((0 : Int) : Rat)]]) (.int (1 + v)) = pure (.tup (rep [.tup [.rat ((1 : Int) : Rat), .rat ((0 : Int) : Rat)]] (1 + v))) := by
            show (do guardM (1 ≤ 1 + v ∧ 1 + v ≤ 1000 ∧ 1 ≤ 1000 ∧ false = false ∧ D.noOwns [.tup [.rat ((1 : Int) : Rat), .rat ((0 : Int) : Rat)]] = true); pure (D.tup (rep [.tup [.rat ((1 : Int) : Rat), .rat ((0 : Int) : Rat)]] (1 + v))) : Mp.M D) = _
            unfold guardM
            rw [if_pos ⟨by omega, by omega, by decide, rfl, rfl⟩]
            rfl
          rw [em]
          (((try simp only [ID, E1, R1, N2, V_cons, bw, optI, tru, notB, V_bind, V_pure, V_guard, V_ite, V_some, V_getS, V_setS, getE, asgT, setE, setsE, kilE, wipeE, D.strips, D.strip, isNop, B1, S1, P1, List.map, List.append, List.replicate, List.set_cons_zero, List.set_cons_succ, List.getElem?_cons_zero, List.getElem?_cons_succ, List.cons_append, List.nil_append, Tg.slots, if_true, Bool.false_eq_true, if_false, reduceIte, List.length_cons, List.length_nil]); (try simp only [ne_eq, reduceCtorEq, not_false_eq_true, not_true_eq_false, true_or, or_true, false_or, or_false, true_and, and_true, isPath, G1, P1, Bool.and_true, Bool.true_and, Bool.and_self, Bool.not_true, Bool.not_false])); (try rw [(N1 _).1]); ((try simp only [ID, E1, R1, N2, V_cons, bw, optI, tru, notB, V_bind, V_pure, V_guard, V_ite, V_some, V_getS, V_setS, getE, asgT, setE, setsE, kilE, wipeE, D.strips, D.strip, isNop, B1, S1, P1, List.map, List.append, List.replicate, List.set_cons_zero, List.set_cons_succ, List.getElem?_cons_zero, List.getElem?_cons_succ, List.cons_append, List.nil_append, Tg.slots, if_true, Bool.false_eq_true, if_false, reduceIte, List.length_cons, List.length_nil]); (try simp only [ne_eq, reduceCtorEq, not_false_eq_true, not_true_eq_false, true_or, or_true, false_or, or_false, true_and, and_true, isPath, G1, P1, Bool.and_true, Bool.true_and, Bool.and_self, Bool.not_true, Bool.not_false])))
          have lr : (rep [D.tup [.rat ((1 : Int) : Rat), .rat ((0 : Int) : Rat)]] (1 + v)).length ≤ 100 := by
            unfold rep
            simp only [List.length_flatten, List.map_replicate, List.length_cons, List.length_nil, List.sum_replicate_nat]
            omega
          refine ⟨by omega, ?_⟩
          refine q _ s3 k3 (gv_tup.mpr fun x hx => ?_)
          rcases List.mem_append.mp hx with hx | hx
          · exact (hr x hx).gv
          · unfold rep at hx
            obtain ⟨l, h1, h2⟩ := List.mem_flatten.mp hx
            rw [List.eq_of_mem_replicate h1] at h2
            rw [List.mem_singleton.mp h2, gv_tup]
            intro y hy
            simp only [List.mem_cons, List.not_mem_nil, or_false] at hy
            rcases hy with rfl | rfl <;> rw [gvq] <;> assumption
        · rw [if_neg (by simpa using c4)]
          (((try simp only [ID, E1, R1, N2, V_cons, bw, optI, tru, notB, V_bind, V_pure, V_guard, V_ite, V_some, V_getS, V_setS, getE, asgT, setE, setsE, kilE, wipeE, D.strips, D.strip, isNop, B1, S1, P1, List.map, List.append, List.replicate, List.set_cons_zero, List.set_cons_succ, List.getElem?_cons_zero, List.getElem?_cons_succ, List.cons_append, List.nil_append, Tg.slots, if_true, Bool.false_eq_true, if_false, reduceIte, List.length_cons, List.length_nil]); (try simp only [ne_eq, reduceCtorEq, not_false_eq_true, not_true_eq_false, true_or, or_true, false_or, or_false, true_and, and_true, isPath, G1, P1, Bool.and_true, Bool.true_and, Bool.and_self, Bool.not_true, Bool.not_false])); (try rw [(N1 _).1]); ((try simp only [ID, E1, R1, N2, V_cons, bw, optI, tru, notB, V_bind, V_pure, V_guard, V_ite, V_some, V_getS, V_setS, getE, asgT, setE, setsE, kilE, wipeE, D.strips, D.strip, isNop, B1, S1, P1, List.map, List.append, List.replicate, List.set_cons_zero, List.set_cons_succ, List.getElem?_cons_zero, List.getElem?_cons_succ, List.cons_append, List.nil_append, Tg.slots, if_true, Bool.false_eq_true, if_false, reduceIte, List.length_cons, List.length_nil]); (try simp only [ne_eq, reduceCtorEq, not_false_eq_true, not_true_eq_false, true_or, or_true, false_or, or_false, true_and, and_true, isPath, G1, P1, Bool.and_true, Bool.true_and, Bool.and_self, Bool.not_true, Bool.not_false])))
          by_cases c5 : pick = 7
          · rw [if_pos (by simpa using c5)]
            (((try simp only [ID, E1, R1, N2, V_cons, bw, optI, tru, notB, V_bind, V_pure, V_guard, V_ite, V_some, V_getS, V_setS, getE, asgT, setE, setsE, kilE, wipeE, D.strips, D.strip, isNop, B1, S1, P1, List.map, List.append, List.replicate, List.set_cons_zero, List.set_cons_succ, List.getElem?_cons_zero, List.getElem?_cons_succ, List.cons_append, List.nil_append, Tg.slots, if_true, Bool.false_eq_true, if_false, reduceIte, List.length_cons, List.length_nil]); (try simp only [ne_eq, reduceCtorEq, not_false_eq_true, not_true_eq_false, true_or, or_true, false_or, or_false, true_and, and_true, isPath, G1, P1, Bool.and_true, Bool.true_and, Bool.and_self, Bool.not_true, Bool.not_false])); (try rw [(N1 _).1]); ((try simp only [ID, E1, R1, N2, V_cons, bw, optI, tru, notB, V_bind, V_pure, V_guard, V_ite, V_some, V_getS, V_setS, getE, asgT, setE, setsE, kilE, wipeE, D.strips, D.strip, isNop, B1, S1, P1, List.map, List.append, List.replicate, List.set_cons_zero, List.set_cons_succ, List.getElem?_cons_zero, List.getElem?_cons_succ, List.cons_append, List.nil_append, Tg.slots, if_true, Bool.false_eq_true, if_false, reduceIte, List.length_cons, List.length_nil]); (try simp only [ne_eq, reduceCtorEq, not_false_eq_true, not_true_eq_false, true_or, or_true, false_or, or_false, true_and, and_true, isPath, G1, P1, Bool.and_true, Bool.true_and, Bool.and_self, Bool.not_true, Bool.not_false])))
            refine ⟨no, ?_⟩
            rw [sl_tup, sl_tup]
            have l1 := cut_len (xs := ds) (lo := none) (hi := some at_)
            have l2 := cut_len (xs := ds) (lo := some (at_ + 1)) (hi := none)
            (((try simp only [ID, E1, R1, N2, V_cons, bw, optI, tru, notB, V_bind, V_pure, V_guard, V_ite, V_some, V_getS, V_setS, getE, asgT, setE, setsE, kilE, wipeE, D.strips, D.strip, isNop, B1, S1, P1, List.map, List.append, List.replicate, List.set_cons_zero, List.set_cons_succ, List.getElem?_cons_zero, List.getElem?_cons_succ, List.cons_append, List.nil_append, Tg.slots, if_true, Bool.false_eq_true, if_false, reduceIte, List.length_cons, List.length_nil]); (try simp only [ne_eq, reduceCtorEq, not_false_eq_true, not_true_eq_false, true_or, or_true, false_or, or_false, true_and, and_true, isPath, G1, P1, Bool.and_true, Bool.true_and, Bool.and_self, Bool.not_true, Bool.not_false])); (try rw [(N1 _).1]); ((try simp only [ID, E1, R1, N2, V_cons, bw, optI, tru, notB, V_bind, V_pure, V_guard, V_ite, V_some, V_getS, V_setS, getE, asgT, setE, setsE, kilE, wipeE, D.strips, D.strip, isNop, B1, S1, P1, List.map, List.append, List.replicate, List.set_cons_zero, List.set_cons_succ, List.getElem?_cons_zero, List.getElem?_cons_succ, List.cons_append, List.nil_append, Tg.slots, if_true, Bool.false_eq_true, if_false, reduceIte, List.length_cons, List.length_nil]); (try simp only [ne_eq, reduceCtorEq, not_false_eq_true, not_true_eq_false, true_or, or_true, false_or, or_false, true_and, and_true, isPath, G1, P1, Bool.and_true, Bool.true_and, Bool.and_self, Bool.not_true, Bool.not_false])))
            refine ⟨no, by omega, ?_⟩
            refine q _ s2 k2 (gv_tup.mpr fun x hx => ?_)
            rcases List.mem_append.mp hx with hx | hx <;> exact (hr x (cut_mem x hx)).gv
          · rw [if_neg (by simpa using c5)]
            (((try simp only [ID, E1, R1, N2, V_cons, bw, optI, tru, notB, V_bind, V_pure, V_guard, V_ite, V_some, V_getS, V_setS, getE, asgT, setE, setsE, kilE, wipeE, D.strips, D.strip, isNop, B1, S1, P1, List.map, List.append, List.replicate, List.set_cons_zero, List.set_cons_succ, List.getElem?_cons_zero, List.getElem?_cons_succ, List.cons_append, List.nil_append, Tg.slots, if_true, Bool.false_eq_true, if_false, reduceIte, List.length_cons, List.length_nil]); (try simp only [ne_eq, reduceCtorEq, not_false_eq_true, not_true_eq_false, true_or, or_true, false_or, or_false, true_and, and_true, isPath, G1, P1, Bool.and_true, Bool.true_and, Bool.and_self, Bool.not_true, Bool.not_false])); (try rw [(N1 _).1]); ((try simp only [ID, E1, R1, N2, V_cons, bw, optI, tru, notB, V_bind, V_pure, V_guard, V_ite, V_some, V_getS, V_setS, getE, asgT, setE, setsE, kilE, wipeE, D.strips, D.strip, isNop, B1, S1, P1, List.map, List.append, List.replicate, List.set_cons_zero, List.set_cons_succ, List.getElem?_cons_zero, List.getElem?_cons_succ, List.cons_append, List.nil_append, Tg.slots, if_true, Bool.false_eq_true, if_false, reduceIte, List.length_cons, List.length_nil]); (try simp only [ne_eq, reduceCtorEq, not_false_eq_true, not_true_eq_false, true_or, or_true, false_or, or_false, true_and, and_true, isPath, G1, P1, Bool.and_true, Bool.true_and, Bool.and_self, Bool.not_true, Bool.not_false])))
            by_cases c6 : pick = 8
            · rw [if_pos (by simpa using c6)]
              (((try simp only [ID, E1, R1, N2, V_cons, bw, optI, tru, notB, V_bind, V_pure, V_guard, V_ite, V_some, V_getS, V_setS, getE, asgT, setE, setsE, kilE, wipeE, D.strips, D.strip, isNop, B1, S1, P1, List.map, List.append, List.replicate, List.set_cons_zero, List.set_cons_succ, List.getElem?_cons_zero, List.getElem?_cons_succ, List.cons_append, List.nil_append, Tg.slots, if_true, Bool.false_eq_true, if_false, reduceIte, List.length_cons, List.length_nil]); (try simp only [ne_eq, reduceCtorEq, not_false_eq_true, not_true_eq_false, true_or, or_true, false_or, or_false, true_and, and_true, isPath, G1, P1, Bool.and_true, Bool.true_and, Bool.and_self, Bool.not_true, Bool.not_false])); (try rw [(N1 _).1]); ((try simp only [ID, E1, R1, N2, V_cons, bw, optI, tru, notB, V_bind, V_pure, V_guard, V_ite, V_some, V_getS, V_setS, getE, asgT, setE, setsE, kilE, wipeE, D.strips, D.strip, isNop, B1, S1, P1, List.map, List.append, List.replicate, List.set_cons_zero, List.set_cons_succ, List.getElem?_cons_zero, List.getElem?_cons_succ, List.cons_append, List.nil_append, Tg.slots, if_true, Bool.false_eq_true, if_false, reduceIte, List.length_cons, List.length_nil]); (try simp only [ne_eq, reduceCtorEq, not_false_eq_true, not_true_eq_false, true_or, or_true, false_or, or_false, true_and, and_true, isPath, G1, P1, Bool.and_true, Bool.true_and, Bool.and_self, Bool.not_true, Bool.not_false])))
              refine V_some1 (k := kk + 1) rfl rfl rfl rfl rfl k2 fun b s3 k3 zb b0 => ?_
              ((try simp only [E1, R1, N2, V_cons, bw, optI, tru, notB, V_bind, V_pure, V_guard, V_ite, V_some, V_getS, V_setS, getE, asgT, setE, setsE, kilE, wipeE, D.strips, D.strip, isNop, B1, S1, P1, List.map, List.append, List.replicate, List.set_cons_zero, List.set_cons_succ, List.getElem?_cons_zero, List.getElem?_cons_succ, List.cons_append, List.nil_append, Tg.slots, if_true, Bool.false_eq_true, if_false, reduceIte, List.length_cons, List.length_nil]); (try simp only [ne_eq, reduceCtorEq, not_false_eq_true, not_true_eq_false, true_or, or_true, false_or, or_false, true_and, and_true, isPath, G1, P1, Bool.and_true, Bool.true_and, Bool.and_self, Bool.not_true, Bool.not_false]))
              refine V_ratio (k := kk + 3) rfl (zb.sm (by decide) (by decide)) ?_
              (((try simp only [ID, E1, R1, N2, V_cons, bw, optI, tru, notB, V_bind, V_pure, V_guard, V_ite, V_some, V_getS, V_setS, getE, asgT, setE, setsE, kilE, wipeE, D.strips, D.strip, isNop, B1, S1, P1, List.map, List.append, List.replicate, List.set_cons_zero, List.set_cons_succ, List.getElem?_cons_zero, List.getElem?_cons_succ, List.cons_append, List.nil_append, Tg.slots, if_true, Bool.false_eq_true, if_false, reduceIte, List.length_cons, List.length_nil]); (try simp only [ne_eq, reduceCtorEq, not_false_eq_true, not_true_eq_false, true_or, or_true, false_or, or_false, true_and, and_true, isPath, G1, P1, Bool.and_true, Bool.true_and, Bool.and_self, Bool.not_true, Bool.not_false])); (try rw [(N1 _).1]); ((try simp only [ID, E1, R1, N2, V_cons, bw, optI, tru, notB, V_bind, V_pure, V_guard, V_ite, V_some, V_getS, V_setS, getE, asgT, setE, setsE, kilE, wipeE, D.strips, D.strip, isNop, B1, S1, P1, List.map, List.append, List.replicate, List.set_cons_zero, List.set_cons_succ, List.getElem?_cons_zero, List.getElem?_cons_succ, List.cons_append, List.nil_append, Tg.slots, if_true, Bool.false_eq_true, if_false, reduceIte, List.length_cons, List.length_nil]); (try simp only [ne_eq, reduceCtorEq, not_false_eq_true, not_true_eq_false, true_or, or_true, false_or, or_false, true_and, and_true, isPath, G1, P1, Bool.and_true, Bool.true_and, Bool.and_self, Bool.not_true, Bool.not_false])))
              refine fin _ _ none s3 k3 (gv_tup.mpr fun y hy => ?_)
              simp only [List.mem_cons, List.not_mem_nil, or_false] at hy
              rcases hy with rfl | rfl <;> rw [gvq]
              · exact zb.mono (by decide) (by decide)
              · exact za
            · rw [if_neg (by simpa using c6)]
              (((try simp only [ID, E1, R1, N2, V_cons, bw, optI, tru, notB, V_bind, V_pure, V_guard, V_ite, V_some, V_getS, V_setS, getE, asgT, setE, setsE, kilE, wipeE, D.strips, D.strip, isNop, B1, S1, P1, List.map, List.append, List.replicate, List.set_cons_zero, List.set_cons_succ, List.getElem?_cons_zero, List.getElem?_cons_succ, List.cons_append, List.nil_append, Tg.slots, if_true, Bool.false_eq_true, if_false, reduceIte, List.length_cons, List.length_nil]); (try simp only [ne_eq, reduceCtorEq, not_false_eq_true, not_true_eq_false, true_or, or_true, false_or, or_false, true_and, and_true, isPath, G1, P1, Bool.and_true, Bool.true_and, Bool.and_self, Bool.not_true, Bool.not_false])); (try rw [(N1 _).1]); ((try simp only [ID, E1, R1, N2, V_cons, bw, optI, tru, notB, V_bind, V_pure, V_guard, V_ite, V_some, V_getS, V_setS, getE, asgT, setE, setsE, kilE, wipeE, D.strips, D.strip, isNop, B1, S1, P1, List.map, List.append, List.replicate, List.set_cons_zero, List.set_cons_succ, List.getElem?_cons_zero, List.getElem?_cons_succ, List.cons_append, List.nil_append, Tg.slots, if_true, Bool.false_eq_true, if_false, reduceIte, List.length_cons, List.length_nil]); (try simp only [ne_eq, reduceCtorEq, not_false_eq_true, not_true_eq_false, true_or, or_true, false_or, or_false, true_and, and_true, isPath, G1, P1, Bool.and_true, Bool.true_and, Bool.and_self, Bool.not_true, Bool.not_false])))
              refine ⟨za.sm (by decide) (by decide), ?_⟩
              refine fin _ _ none s2 k2 (gv_tup.mpr fun y hy => ?_)
              simp only [List.mem_cons, List.not_mem_nil, or_false] at hy
              rcases hy with rfl | rfl <;> rw [gvq]
              · exact zt
              · exact za.neg
theorem noShrs_rows : ∀ rr : List (Rat × Rat), D.noShrs (rr.map fun r => D.tup [.rat r.1, .rat r.2]) = true
  | [] => rfl
  | r :: rr => by
    rw [List.map_cons, D.noShrs, noShrs_rows rr]
    rfl
theorem lawOk : LawOk2 Γ 7 d_pre d_check_move "BadMove" := by
  refine lawOk2_of rfl fun ns s hl hs => ?_
  simp only [d_pre]
  (((try simp only [E1, R1, N2, V_cons, bw, optI, tru, notB, V_bind, V_pure, V_guard, V_ite, V_some, V_getS, V_setS, getE, asgT, setE, setsE, kilE, wipeE, D.strips, D.strip, isNop, B1, S1, P1, List.map, List.append, List.replicate, List.set_cons_zero, List.set_cons_succ, List.getElem?_cons_zero, List.getElem?_cons_succ, List.cons_append, List.nil_append, Tg.slots, if_true, Bool.false_eq_true, if_false, reduceIte, List.length_cons, List.length_nil]); (try simp only [ne_eq, reduceCtorEq, not_false_eq_true, not_true_eq_false, true_or, or_true, false_or, or_false, true_and, and_true, isPath, G1, P1, Bool.and_true, Bool.true_and, Bool.and_self, Bool.not_true, Bool.not_false])); (try rw [(N1 _).1]); ((try simp only [E1, R1, N2, V_cons, bw, optI, tru, notB, V_bind, V_pure, V_guard, V_ite, V_some, V_getS, V_setS, getE, asgT, setE, setsE, kilE, wipeE, D.strips, D.strip, isNop, B1, S1, P1, List.map, List.append, List.replicate, List.set_cons_zero, List.set_cons_succ, List.getElem?_cons_zero, List.getElem?_cons_succ, List.cons_append, List.nil_append, Tg.slots, if_true, Bool.false_eq_true, if_false, reduceIte, List.length_cons, List.length_nil]); (try simp only [ne_eq, reduceCtorEq, not_false_eq_true, not_true_eq_false, true_or, or_true, false_or, or_false, true_and, and_true, isPath, G1, P1, Bool.and_true, Bool.true_and, Bool.and_self, Bool.not_true, Bool.not_false])))
  refine V_move (k := 4) rfl rfl rfl rfl rfl rfl rfl rfl rfl rfl hs fun rs d a s1 k1 ok => ?_
  have rl := ok.len'
  (((try simp only [E1, R1, N2, V_cons, bw, optI, tru, notB, V_bind, V_pure, V_guard, V_ite, V_some, V_getS, V_setS, getE, asgT, setE, setsE, kilE, wipeE, D.strips, D.strip, isNop, B1, S1, P1, List.map, List.append, List.replicate, List.set_cons_zero, List.set_cons_succ, List.getElem?_cons_zero, List.getElem?_cons_succ, List.cons_append, List.nil_append, Tg.slots, if_true, Bool.false_eq_true, if_false, reduceIte, List.length_cons, List.length_nil]); (try simp only [ne_eq, reduceCtorEq, not_false_eq_true, not_true_eq_false, true_or, or_true, false_or, or_false, true_and, and_true, isPath, G1, P1, Bool.and_true, Bool.true_and, Bool.and_self, Bool.not_true, Bool.not_false])); (try rw [(N1 _).1]); ((try simp only [E1, R1, N2, V_cons, bw, optI, tru, notB, V_bind, V_pure, V_guard, V_ite, V_some, V_getS, V_setS, getE, asgT, setE, setsE, kilE, wipeE, D.strips, D.strip, isNop, B1, S1, P1, List.map, List.append, List.replicate, List.set_cons_zero, List.set_cons_succ, List.getElem?_cons_zero, List.getElem?_cons_succ, List.cons_append, List.nil_append, Tg.slots, if_true, Bool.false_eq_true, if_false, reduceIte, List.length_cons, List.length_nil]); (try simp only [ne_eq, reduceCtorEq, not_false_eq_true, not_true_eq_false, true_or, or_true, false_or, or_false, true_and, and_true, isPath, G1, P1, Bool.and_true, Bool.true_and, Bool.and_self, Bool.not_true, Bool.not_false])))
  simp only [strips_encR]
  have hlim : (LIM : Int) = 1000000 := rfl
  have hlim2 : LIM = 1000000 := rfl
  refine V_made (k := 6) rfl rfl ok.sm (by omega) ?_
  generalize hrr : rs ++ [(d, a)] = rr
  rw [hrr] at rl
  have gC : ∀ x ∈ rr.map (fun r => D.tup [.rat r.1, .rat r.2]), Row2 x := by
    intro x hx
    obtain ⟨r, hr, rfl⟩ := List.mem_map.mp hx
    refine ⟨r.1, r.2, rfl, ?_⟩
    rw [← hrr] at hr
    rcases List.mem_append.mp hr with h | h
    · have o := ok.all r h
      exact ⟨o.d.mono (by decide) (by decide), o.a.mono (by decide) (by decide)⟩
    · rw [List.mem_singleton.mp h]
      exact ⟨ok.zd.mono (by decide) (by decide), ok.za.mono (by decide) (by decide)⟩
  have l0 : 0 < rr.length := by rw [← hrr, List.length_append]; simp
  generalize hds : rr.map (fun r => D.tup [.rat r.1, .rat r.2]) = ds at gC
  have ld : ds.length = rr.length := by rw [← hds, List.length_map]
  have no : D.noOwns ds = true := noOwns_all.mpr fun x hx => (gC x hx).no
  have nsh : D.noShrs ds = true := by
    rw [← hds]
    exact noShrs_rows rr
  (((try simp only [ID, E1, R1, N2, V_cons, bw, optI, tru, notB, V_bind, V_pure, V_guard, V_ite, V_some, V_getS, V_setS, getE, asgT, setE, setsE, kilE, wipeE, D.strips, D.strip, isNop, B1, S1, P1, List.map, List.append, List.replicate, List.set_cons_zero, List.set_cons_succ, List.getElem?_cons_zero, List.getElem?_cons_succ, List.cons_append, List.nil_append, Tg.slots, if_true, Bool.false_eq_true, if_false, reduceIte, List.length_cons, List.length_nil]); (try simp only [ne_eq, reduceCtorEq, not_false_eq_true, not_true_eq_false, true_or, or_true, false_or, or_false, true_and, and_true, isPath, G1, P1, Bool.and_true, Bool.true_and, Bool.and_self, Bool.not_true, Bool.not_false])); (try rw [(N1 _).1]); ((try simp only [ID, E1, R1, N2, V_cons, bw, optI, tru, notB, V_bind, V_pure, V_guard, V_ite, V_some, V_getS, V_setS, getE, asgT, setE, setsE, kilE, wipeE, D.strips, D.strip, isNop, B1, S1, P1, List.map, List.append, List.replicate, List.set_cons_zero, List.set_cons_succ, List.getElem?_cons_zero, List.getElem?_cons_succ, List.cons_append, List.nil_append, Tg.slots, if_true, Bool.false_eq_true, if_false, reduceIte, List.length_cons, List.length_nil]); (try simp only [ne_eq, reduceCtorEq, not_false_eq_true, not_true_eq_false, true_or, or_true, false_or, or_false, true_and, and_true, isPath, G1, P1, Bool.and_true, Bool.true_and, Bool.and_self, Bool.not_true, Bool.not_false])))
  refine ⟨nsh, ?_⟩
  (((try simp only [ID, E1, R1, N2, V_cons, bw, optI, tru, notB, V_bind, V_pure, V_guard, V_ite, V_some, V_getS, V_setS, getE, asgT, setE, setsE, kilE, wipeE, D.strips, D.strip, isNop, B1, S1, P1, List.map, List.append, List.replicate, List.set_cons_zero, List.set_cons_succ, List.getElem?_cons_zero, List.getElem?_cons_succ, List.cons_append, List.nil_append, Tg.slots, if_true, Bool.false_eq_true, if_false, reduceIte, List.length_cons, List.length_nil]); (try simp only [ne_eq, reduceCtorEq, not_false_eq_true, not_true_eq_false, true_or, or_true, false_or, or_false, true_and, and_true, isPath, G1, P1, Bool.and_true, Bool.true_and, Bool.and_self, Bool.not_true, Bool.not_false])); (try rw [(N1 _).1]); ((try simp only [ID, E1, R1, N2, V_cons, bw, optI, tru, notB, V_bind, V_pure, V_guard, V_ite, V_some, V_getS, V_setS, getE, asgT, setE, setsE, kilE, wipeE, D.strips, D.strip, isNop, B1, S1, P1, List.map, List.append, List.replicate, List.set_cons_zero, List.set_cons_succ, List.getElem?_cons_zero, List.getElem?_cons_succ, List.cons_append, List.nil_append, Tg.slots, if_true, Bool.false_eq_true, if_false, reduceIte, List.length_cons, List.length_nil]); (try simp only [ne_eq, reduceCtorEq, not_false_eq_true, not_true_eq_false, true_or, or_true, false_or, or_false, true_and, and_true, isPath, G1, P1, Bool.and_true, Bool.true_and, Bool.and_self, Bool.not_true, Bool.not_false])))
  refine V_draw (k := 7) rfl (by decide) (by decide +kernel) k1 fun v s2 k2 v0 v1 => ?_
  ((try simp only [ID, E1, R1, N2, V_cons, bw, optI, tru, notB, V_bind, V_pure, V_guard, V_ite, V_some, V_getS, V_setS, getE, asgT, setE, setsE, kilE, wipeE, D.strips, D.strip, isNop, B1, S1, P1, List.map, List.append, List.replicate, List.set_cons_zero, List.set_cons_succ, List.getElem?_cons_zero, List.getElem?_cons_succ, List.cons_append, List.nil_append, Tg.slots, if_true, Bool.false_eq_true, if_false, reduceIte, List.length_cons, List.length_nil]); (try simp only [ne_eq, reduceCtorEq, not_false_eq_true, not_true_eq_false, true_or, or_true, false_or, or_false, true_and, and_true, isPath, G1, P1, Bool.and_true, Bool.true_and, Bool.and_self, Bool.not_true, Bool.not_false]))
  generalize hM : Nxt (callF Γ 8) (MSs.cons (MS.asg (Tg.nm 3) _) _) _ = M
  have fin : ∀ (d : D) s3, Sok s3 → d.gv → M (.nx [some (.scr ns), some .strm, some d, none, none, none, none]) s3 := by
    intro d s3 k3 gd
    rw [← hM]
    (((try simp only [ID, E1, R1, N2, V_cons, bw, optI, tru, notB, V_bind, V_pure, V_guard, V_ite, V_some, V_getS, V_setS, getE, asgT, setE, setsE, kilE, wipeE, D.strips, D.strip, isNop, B1, S1, P1, List.map, List.append, List.replicate, List.set_cons_zero, List.set_cons_succ, List.getElem?_cons_zero, List.getElem?_cons_succ, List.cons_append, List.nil_append, Tg.slots, if_true, Bool.false_eq_true, if_false, reduceIte, List.length_cons, List.length_nil]); (try simp only [ne_eq, reduceCtorEq, not_false_eq_true, not_true_eq_false, true_or, or_true, false_or, or_false, true_and, and_true, isPath, G1, P1, Bool.and_true, Bool.true_and, Bool.and_self, Bool.not_true, Bool.not_false])); (try rw [(N1 _).1]); ((try simp only [ID, E1, R1, N2, V_cons, bw, optI, tru, notB, V_bind, V_pure, V_guard, V_ite, V_some, V_getS, V_setS, getE, asgT, setE, setsE, kilE, wipeE, D.strips, D.strip, isNop, B1, S1, P1, List.map, List.append, List.replicate, List.set_cons_zero, List.set_cons_succ, List.getElem?_cons_zero, List.getElem?_cons_succ, List.cons_append, List.nil_append, Tg.slots, if_true, Bool.false_eq_true, if_false, reduceIte, List.length_cons, List.length_nil]); (try simp only [ne_eq, reduceCtorEq, not_false_eq_true, not_true_eq_false, true_or, or_true, false_or, or_false, true_and, and_true, isPath, G1, P1, Bool.and_true, Bool.true_and, Bool.and_self, Bool.not_true, Bool.not_false])))
    refine lawA (kk := 5) (gv_strip gd) strip_noOwn ?_
    refine ⟨.inl rfl, ?_⟩
    (((try simp only [ID, E1, R1, N2, V_cons, bw, optI, tru, notB, V_bind, V_pure, V_guard, V_ite, V_some, V_getS, V_setS, getE, asgT, setE, setsE, kilE, wipeE, D.strips, D.strip, isNop, B1, S1, P1, List.map, List.append, List.replicate, List.set_cons_zero, List.set_cons_succ, List.getElem?_cons_zero, List.getElem?_cons_succ, List.cons_append, List.nil_append, Tg.slots, if_true, Bool.false_eq_true, if_false, reduceIte, List.length_cons, List.length_nil]); (try simp only [ne_eq, reduceCtorEq, not_false_eq_true, not_true_eq_false, true_or, or_true, false_or, or_false, true_and, and_true, isPath, G1, P1, Bool.and_true, Bool.true_and, Bool.and_self, Bool.not_true, Bool.not_false])); (try rw [(N1 _).1]); ((try simp only [ID, E1, R1, N2, V_cons, bw, optI, tru, notB, V_bind, V_pure, V_guard, V_ite, V_some, V_getS, V_setS, getE, asgT, setE, setsE, kilE, wipeE, D.strips, D.strip, isNop, B1, S1, P1, List.map, List.append, List.replicate, List.set_cons_zero, List.set_cons_succ, List.getElem?_cons_zero, List.getElem?_cons_succ, List.cons_append, List.nil_append, Tg.slots, if_true, Bool.false_eq_true, if_false, reduceIte, List.length_cons, List.length_nil]); (try simp only [ne_eq, reduceCtorEq, not_false_eq_true, not_true_eq_false, true_or, or_true, false_or, or_false, true_and, and_true, isPath, G1, P1, Bool.and_true, Bool.true_and, Bool.and_self, Bool.not_true, Bool.not_false])))
    refine ⟨d.strip, mvB d.strip, rfl, strip_noOwn, gv_strip gd, ?_⟩
    exact progB (kk := 6) (gv_strip gd) strip_noOwn
  by_cases c : 0 < v
  · rw [if_pos (decide_eq_true c)]
    (((try simp only [ID, E1, R1, N2, V_cons, bw, optI, tru, notB, V_bind, V_pure, V_guard, V_ite, V_some, V_getS, V_setS, getE, asgT, setE, setsE, kilE, wipeE, D.strips, D.strip, isNop, B1, S1, P1, List.map, List.append, List.replicate, List.set_cons_zero, List.set_cons_succ, List.getElem?_cons_zero, List.getElem?_cons_succ, List.cons_append, List.nil_append, Tg.slots, if_true, Bool.false_eq_true, if_false, reduceIte, List.length_cons, List.length_nil]); (try simp only [ne_eq, reduceCtorEq, not_false_eq_true, not_true_eq_false, true_or, or_true, false_or, or_false, true_and, and_true, isPath, G1, P1, Bool.and_true, Bool.true_and, Bool.and_self, Bool.not_true, Bool.not_false])); (try rw [(N1 _).1]); ((try simp only [ID, E1, R1, N2, V_cons, bw, optI, tru, notB, V_bind, V_pure, V_guard, V_ite, V_some, V_getS, V_setS, getE, asgT, setE, setsE, kilE, wipeE, D.strips, D.strip, isNop, B1, S1, P1, List.map, List.append, List.replicate, List.set_cons_zero, List.set_cons_succ, List.getElem?_cons_zero, List.getElem?_cons_succ, List.cons_append, List.nil_append, Tg.slots, if_true, Bool.false_eq_true, if_false, reduceIte, List.length_cons, List.length_nil]); (try simp only [ne_eq, reduceCtorEq, not_false_eq_true, not_true_eq_false, true_or, or_true, false_or, or_false, true_and, and_true, isPath, G1, P1, Bool.and_true, Bool.true_and, Bool.and_self, Bool.not_true, Bool.not_false])))
    rw [strips_own no]
    refine hurtV (kk := 3) k2 (by omega) (by omega) gC fun d s3 k3 gd => ?_
    refine ⟨.inr no, ?_⟩
    (((try simp only [ID, E1, R1, N2, V_cons, bw, optI, tru, notB, V_bind, V_pure, V_guard, V_ite, V_some, V_getS, V_setS, getE, asgT, setE, setsE, kilE, wipeE, D.strips, D.strip, isNop, B1, S1, P1, List.map, List.append, List.replicate, List.set_cons_zero, List.set_cons_succ, List.getElem?_cons_zero, List.getElem?_cons_succ, List.cons_append, List.nil_append, Tg.slots, if_true, Bool.false_eq_true, if_false, reduceIte, List.length_cons, List.length_nil]); (try simp only [ne_eq, reduceCtorEq, not_false_eq_true, not_true_eq_false, true_or, or_true, false_or, or_false, true_and, and_true, isPath, G1, P1, Bool.and_true, Bool.true_and, Bool.and_self, Bool.not_true, Bool.not_false])); (try rw [(N1 _).1]); ((try simp only [ID, E1, R1, N2, V_cons, bw, optI, tru, notB, V_bind, V_pure, V_guard, V_ite, V_some, V_getS, V_setS, getE, asgT, setE, setsE, kilE, wipeE, D.strips, D.strip, isNop, B1, S1, P1, List.map, List.append, List.replicate, List.set_cons_zero, List.set_cons_succ, List.getElem?_cons_zero, List.getElem?_cons_succ, List.cons_append, List.nil_append, Tg.slots, if_true, Bool.false_eq_true, if_false, reduceIte, List.length_cons, List.length_nil]); (try simp only [ne_eq, reduceCtorEq, not_false_eq_true, not_true_eq_false, true_or, or_true, false_or, or_false, true_and, and_true, isPath, G1, P1, Bool.and_true, Bool.true_and, Bool.and_self, Bool.not_true, Bool.not_false])))
    exact fin d s3 k3 gd
  · rw [if_neg (by simpa using c)]
    (((try simp only [ID, E1, R1, N2, V_cons, bw, optI, tru, notB, V_bind, V_pure, V_guard, V_ite, V_some, V_getS, V_setS, getE, asgT, setE, setsE, kilE, wipeE, D.strips, D.strip, isNop, B1, S1, P1, List.map, List.append, List.replicate, List.set_cons_zero, List.set_cons_succ, List.getElem?_cons_zero, List.getElem?_cons_succ, List.cons_append, List.nil_append, Tg.slots, if_true, Bool.false_eq_true, if_false, reduceIte, List.length_cons, List.length_nil]); (try simp only [ne_eq, reduceCtorEq, not_false_eq_true, not_true_eq_false, true_or, or_true, false_or, or_false, true_and, and_true, isPath, G1, P1, Bool.and_true, Bool.true_and, Bool.and_self, Bool.not_true, Bool.not_false])); (try rw [(N1 _).1]); ((try simp only [ID, E1, R1, N2, V_cons, bw, optI, tru, notB, V_bind, V_pure, V_guard, V_ite, V_some, V_getS, V_setS, getE, asgT, setE, setsE, kilE, wipeE, D.strips, D.strip, isNop, B1, S1, P1, List.map, List.append, List.replicate, List.set_cons_zero, List.set_cons_succ, List.getElem?_cons_zero, List.getElem?_cons_succ, List.cons_append, List.nil_append, Tg.slots, if_true, Bool.false_eq_true, if_false, reduceIte, List.length_cons, List.length_nil]); (try simp only [ne_eq, reduceCtorEq, not_false_eq_true, not_true_eq_false, true_or, or_true, false_or, or_false, true_and, and_true, isPath, G1, P1, Bool.and_true, Bool.true_and, Bool.and_self, Bool.not_true, Bool.not_false])))
    exact fin _ s2 k2 (gv_tup.mpr fun x hx => (gC x hx).gv)
end K20

namespace K20
open PySem PySem.Spec
open PyProof.Rows L2 Mp
abbrev R : PySem.W.OpenRow := PySem.W.OpenLaw.row PySem.Challenge.rw_traproom_k20_good_moves
abbrev hk : PySem.W.Hook := hookQ 5 fa' fn' exQ
def ob (s : PySem.W.SharedT) : He.AlD × Bool := (He.obsDG 5 fa' fn' (HandSHeadRun.getT s), exQ (He.frG (HandSHeadRun.getT s) (He.asD (HandSHeadRun.getT s) 5)))
theorem ob_eq (s : PySem.W.SharedT) : ob s = hk.obs s.abs := hookQ_eq (HandSHeadRun.getT_eq s)
theorem run (w : World) : HandSHeadRun.RunEq R (PySem.W.view R.prog [34]) hk ob 4000 ((["TraproomError", "ByZero", "BadMove", "BadSheet", "BadShow", "BadFault", "BadCall", "greatest_divisor", "Ratio", "is_zero", "is_negative", "is_number", "check_move", "_law_stream", "_law_draw", "_law_pair", "_law_sum", "_law_minus", "_law_times", "_law_over", "_law_size", "_law_ratio", "_law_told", "_law_number", "_law_some"] : List PySem.Str) ++ (["_law_move", "_law_made", "_law_is_move", "_law_hurt", "MOST_PIECES", "__name__"] : List PySem.Str)) w := by
  intro os
  kernel_rfl
end K20
open PySem PySem.W PySem.Calls PyProof.Rows
set_option maxRecDepth 1000000 in
set_option maxHeartbeats 0 in
theorem PySem.Challenge.cw_traproom_k20_good_moves_holds : PySem.Challenge.rw_traproom_k20_good_moves.Holds := by
  w_on; o_law
  refine HandSHeadRun.head_any (r := OpenLaw.row PySem.Challenge.rw_traproom_k20_good_moves) (q := view (OpenLaw.row PySem.Challenge.rw_traproom_k20_good_moves).prog [34]) (H := K20.hk) (ob := K20.ob) (M := 4000) (loose := ((["TraproomError", "ByZero", "BadMove", "BadSheet", "BadShow", "BadFault", "BadCall", "greatest_divisor", "Ratio", "is_zero", "is_negative", "is_number", "check_move", "_law_stream", "_law_draw", "_law_pair", "_law_sum", "_law_minus", "_law_times", "_law_over", "_law_size", "_law_ratio", "_law_told", "_law_number", "_law_some"] : List PySem.Str) ++ (["_law_move", "_law_made", "_law_is_move", "_law_hurt", "MOST_PIECES", "__name__"] : List PySem.Str))) (d := HandSHeadRun.topDef (OpenLaw.row PySem.Challenge.rw_traproom_k20_good_moves).prog 34) (kwd := []) K20.ob_eq
    (by kernel_rfl) (fun s => by kernel_rfl) K20.run (by kernel_rfl) (by kernel_rfl) (by kernel_rfl) (by rfl) (by first | assumption | decide +kernel) (by decide +kernel) ⟨rfl, rfl, rfl, rfl, rfl, by decide +kernel⟩ ?hw ?hc
  case hw => w_witness2
  case hc =>
    refine L2.walk_ofE (l := PySem.Challenge.rw_traproom_k20_good_moves) (n := 63) (k := Mp.BASE + 8 + 1) (x := "_law_script") (CX := L2.CX0) rfl (by decide) (by kernel_rfl) ⟨rfl, by decide, by decide⟩ ?F (fun _ _ _ _ z => z)
    intro w mg fa h Y G hmg0
    obtain ⟨K, KX, c, ex⟩ := Y
    have hmg : mg ("law" : PySem.Str) = some (.ref fa) := by
      have e : (HandSHeadRun.topDef (OpenLaw.row PySem.Challenge.rw_traproom_k20_good_moves).prog 34).name = ("law" : PySem.Str) := by kernel_rfl
      rw [← e]
      exact hmg0
    obtain ⟨fd, hb, hF⟩ := K20.facts (P := (PySem.Challenge.rw_traproom_k20_good_moves).prog) (w := w) KX G hmg c ex K20.lawOk
    exact ⟨K, fd, Mp.spLaw K, KX, hb, fun H a ns hl ho hS => ⟨a, ns, rfl, hl, Mp.scr_of ho hS, fun _ => rfl⟩, hF⟩
