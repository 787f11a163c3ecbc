import PyProof.Rows.All
import Wide.All
import OpenK.AllK
import Wide.FinOn
import PyProof.EqAt
import PyProof.EqKinds
import PyProof.TupleCall
import HandS.ForMost
import HandS.Wide
import HandS.Flow
import HandS.Zip
import HandS.TupAny
import HandS.OwnEq
import HandS.Defaults
import HandS.More
import HandS.WordsExc
import KE.KOpsOwn
import HandS.IsInst
import HandS.NoneIn
import HandS.TupMul
import HandS.Walk
import KE.GoesMore
import KE.GoesZip
import PyProof.EnumMake
import PyProof.ZipIter
import HandS.Style
import HandS.Conv
import HandS.Text
import HandS.HeadEnd
import HandS.Deep
import HandS.Ends
import HandS.Head0
import HandS.Head1
import HandS.Head2
import HandS.HeadHook1
import HandS.HeadHook2
import PySem.Challenge.RW_traproom_k04_vertices
set_option Elab.async false
set_option linter.all false
set_option maxRecDepth 1000000
set_option maxHeartbeats 0
namespace Mp
open PySem (Str CmpOp)

/-! ### values as trees -/
inductive D where
  | non | bl (b : Bool) | int (i : Int) | str (s : Str) | rat (q : Rat) | tup (ds : List D) | lst (o : Bool) (ds : List D) | strm | scr (ns : List Int)

mutual
def D.noOwn : D → Bool
  | .tup ds => D.noOwns ds
  | .lst o ds => !o && D.noOwns ds
  | _ => true
def D.noOwns : List D → Bool
  | [] => true
  | d :: ds => D.noOwn d && D.noOwns ds
end
mutual
def D.noShr : D → Bool
  | .tup ds => D.noShrs ds
  | .lst o ds => o && D.noShrs ds
  | _ => true
def D.noShrs : List D → Bool
  | [] => true
  | d :: ds => D.noShr d && D.noShrs ds
end
mutual
def D.strip : D → D
  | .tup ds => .tup (D.strips ds)
  | .lst _ ds => .lst false (D.strips ds)
  | d => d
def D.strips : List D → List D
  | [] => []
  | d :: ds => D.strip d :: D.strips ds
end
mutual
/-- == of two values where it is known -/
def D.eqv : D → D → Option Bool
  | .non, .non => some true
  | .bl a, .bl b => some (a == b)
  | .int a, .int b => some (a == b)
  | .str a, .str b => some (a == b)
  | .rat a, .rat b => some (a == b)
  | .tup as, .tup bs => D.eqvs as bs
  | .lst _ as, .lst _ bs => if as.length = bs.length then D.eqvs as bs else some false
  | .strm, _ => none
  | _, .strm => none
  | .scr _, _ => none
  | _, .scr _ => none
  | .bl a, .int b => some ((if a then 1 else 0) == b)
  | .int a, .bl b => some (a == (if b then 1 else 0))
  | _, _ => some false
def D.eqvs : List D → List D → Option Bool
  | [], [] => some true
  | a :: as, b :: bs => match D.eqv a b with
    | some true => D.eqvs as bs
    | r => r
  | _, _ => some false
end

def isRat : D → Bool
  | .rat _ => true
  | _ => false
mutual
/-- data without fractions, of small depth -/
def D.plain : D → Nat → Bool
  | .non, _ => true
  | .bl _, _ => true
  | .int _, _ => true
  | .str s, _ => s.cps.all (· < 0x110000)
  | .tup ds, n + 1 => D.plains ds n
  | .lst _ ds, n + 1 => D.plains ds n
  | _, _ => false
def D.plains : List D → Nat → Bool
  | [], _ => true
  | d :: ds, n => D.plain d n && D.plains ds n
end
mutual
/-- data with fractions -/
def D.deep : D → Nat → Bool
  | .non, _ => true
  | .bl _, _ => true
  | .int _, _ => true
  | .str _, _ => true
  | .rat _, _ => true
  | .tup ds, n + 1 => D.deeps ds n
  | .lst _ ds, n + 1 => D.deeps ds n
  | _, _ => false
def D.deeps : List D → Nat → Bool
  | [], _ => true
  | d :: ds, n => D.deep d n && D.deeps ds n
end
def isLst : D → Bool
  | .lst _ _ => true
  | _ => false
/-- a fraction against what is none -/
def othD (a b : D) : Bool := isRat a && (match b with
  | .rat _ => false
  | .strm => false
  | .scr _ => false
  | _ => true)
/-- == may be asked -/
def canCmp (a b : D) : Bool := (isRat a && isRat b) || (a.plain 40 && b.plain 40)
/-- item by item, as far as it is looked -/
def cmpsC (f : D → D → Bool) : List D → List D → Bool
  | a :: as, b :: bs => f a b && (match D.eqv a b with
    | some true => cmpsC f as bs
    | some false => true
    | none => false)
  | _, _ => true
/-- what == of items can be told of -/
def deepC : Nat → D → D → Bool
  | 0, a, b => (a.plain 39 && b.plain 39) || ((isRat a && isRat b) || othD a b)
  | n + 1, a, b => ((a.plain 39 && b.plain 39) || ((isRat a && isRat b) || othD a b)) || (match a, b with
    | .tup as, .tup bs => cmpsC (deepC n) as bs
    | .lst _ as, .lst _ bs => as.length != bs.length || cmpsC (deepC n) as bs
    | _, _ => false)
def topC (neg : Bool) : D → D → Bool
  | .lst _ as, .lst _ bs => as.length != bs.length || cmpsC (deepC 4) as bs
  | .tup as, .tup bs => !neg && cmpsC (deepC 4) as bs
  | _, _ => false
/-- lists with fractions: == alone, and only where they are equal -/
def canC (neg : Bool) (a b : D) : Bool := (canCmp a b || othD a b) || topC neg a b
def canIn (a : D) (ds : List D) : Bool := a.plain 40 && D.plains ds 39
/-! ### the stream, results -/
structure Strm where
  cells : List Int
  cell : Int
  ix : Int
  mixed : Int
inductive R (α : Type) where
  | ok (a : α) (s : Strm) | err (c : String) (s : Strm) | bad
def M (α : Type) : Type := Strm → R α
def M.bind {α β : Type} (m : M α) (f : α → M β) : M β := fun s => match m s with
  | .ok a s' => f a s'
  | .err c s' => .err c s'
  | .bad => .bad
def M.pure {α : Type} (a : α) : M α := fun s => .ok a s
instance : Monad M where
  pure := M.pure
  bind := M.bind
def bad {α : Type} : M α := fun _ => .bad
def err {α : Type} (c : String) : M α := fun s => .err c s
def getS : M Strm := fun s => .ok s s
def setS (s : Strm) : M Unit := fun _ => .ok () s
def guardM (c : Prop) [Decidable c] : M Unit := if c then pure () else bad
def ofO {α : Type} : Option α → M α
  | some a => pure a
  | none => bad

/-! ### syntax -/
inductive BOp where
  | add | sub | mul | fdiv | mod | pow
  deriving DecidableEq
inductive Ty where
  | ratio | tuple | list | int | bool | str
  deriving DecidableEq
inductive BF where
  | len | abs | int | list | tuple | any | all | sum | max | min | repr | str
  deriving DecidableEq
inductive Tg where
  | nm (i : Nat) | tup (is : List Nat)
  deriving DecidableEq
mutual
inductive ME where
  | nop | non | bl (b : Bool) | int (i : Int) | str (s : String)
  | var (i : Nat) | glob (x : String) (i : Int)
  | bin (op : BOp) (a b : ME) | neg (a : ME)
  | cmp (op : CmpOp) (a b : ME) | chain (op op' : CmpOp) (a b c : ME)
  | not (a : ME) | and (a b : ME) | or (a b : ME) | ifx (c a b : ME)
  | ix (a i : ME) | sl (a lo hi : ME) | top (a : ME) | bot (a : ME)
  | tup (as : MEs) | lst (as : MEs)
  | call (f : String) (as : MEs) | bi (b : BF) (as : MEs) | mk (as : MEs) | isi (a : ME) (t : Ty)
  | lc (t : Tg) (it : MI) (c e : ME)
  | rev (a : ME) | lrg (a : ME) | fz (a : ME) | ln (a : ME) | jn (a : ME) | mkI (a : ME)
inductive MEs where
  | nil | cons (a : ME) (as : MEs)
inductive MI where
  | seq (a : ME) | rng (a : ME) | rng2 (a b : ME) | enum (a : ME) | zip (a b : ME)
end
def MEs.len : MEs → Nat
  | .nil => 0
  | .cons _ as => as.len + 1
mutual
inductive MS where
  | asg (t : Tg) (e : ME) | par (i j : Nat) (a b : ME) | aug (i : Nat) (e : ME)
  | set1 (i : Nat) (k e : ME) | set2 (i : Nat) (k l e : ME)
  | app (i : Nat) (e : ME) | appm (i j : Nat) | spoil (t i : Nat) | app0 (i : Nat) | app2 (i : Nat) (k e : ME) | retu (f : String) (i : Nat) | iteF (i : Nat) (c : ME) (a b : MSs) | spoil0 (t i : Nat) | ext (i : Nat) (e : ME) | ins (i : Nat) (k e : ME) | pop (t i : Nat) (k : ME)
  | exp (e : ME) | ret (e : ME) | retv (i : Nat) | retN
  | ite (c : ME) (a b : MSs)
  | loop (t : Tg) (it : MI) (body : MSs) (kill : List Nat)
  | while (fuel : Nat) (c : ME) (body : MSs) (kill : List Nat)
  | brk | cont | pass
  | frz (i : Nat) | kil (l : List Nat) | mv (i j : Nat)
  | raise (c : String)
inductive MSs where
  | nil | cons (a : MS) (as : MSs)
end
structure MDef where
  np : Nat
  n : Nat
  body : MSs

/-! ### evaluation -/
abbrev En := List (Option D)
/-- how large a list may be, numbers -/
def LIM : Nat := 1000000
def BIT : Nat := 4490
/-- a fraction that may be reckoned with -/
structure Sm (q : Rat) : Prop where
  num : q.num.natAbs < 2 ^ BIT
  den : q.den < 2 ^ BIT
instance (q : Rat) : Decidable (Sm q) := decidable_of_iff (q.num.natAbs < 2 ^ BIT ∧ q.den < 2 ^ BIT) ⟨fun h => ⟨h.1, h.2⟩, fun h => ⟨h.num, h.den⟩⟩
def mulOk (i j : Int) : Prop := i.natAbs.log2 + j.natAbs.log2 < 1000000
instance (i j : Int) : Decidable (mulOk i j) := inferInstanceAs (Decidable (_ < _))

def rep {α : Type} (xs : List α) (k : Int) : List α := (List.replicate k.toNat xs).flatten
/-- a text, again and again -/
def repS (w : Str) (n : Nat) : Str := ⟨(List.replicate n w.cps).foldl (· ++ ·) #[]⟩
def binD : BOp → D → D → M D
  | .add, .int i, .int j => pure (.int (i + j))
  | .add, .rat a, .rat b => do guardM (Sm a ∧ Sm b); pure (.rat (a + b))
  | .add, .str a, .str b => do guardM (a.length + b.length ≤ LIM); pure (.str (a ++ b))
  | .add, .tup as, .tup bs => do guardM (as.length + bs.length ≤ LIM); pure (.tup (as ++ bs))
  | .add, .lst _ as, .lst _ bs => do guardM (as.length + bs.length ≤ LIM); pure (.lst true (as ++ bs))
  | .sub, .int i, .int j => pure (.int (i - j))
  | .sub, .rat a, .rat b => do guardM (Sm a ∧ Sm b); pure (.rat (a - b))
  | .mul, .int i, .int j => do guardM (mulOk i j); pure (.int (i * j))
  | .mul, .rat a, .rat b => do guardM (Sm a ∧ Sm b); pure (.rat (a * b))
  | .mul, .lst _ as, .int j => do guardM (j < 1000000 ∧ -1000000 < j ∧ as.length * j.toNat ≤ LIM ∧ D.noOwns as = true); pure (.lst true (rep as j))
  | .mul, .tup as, .int j => do guardM (1 ≤ j ∧ j ≤ 1000 ∧ as.length ≤ 1000 ∧ as.isEmpty = false ∧ D.noOwns as = true); pure (.tup (rep as j))
  | .mul, .str w, .int j => do guardM (0 ≤ j ∧ j ≤ 1000000 ∧ w.length * j.toNat ≤ LIM ∧ 0 < w.length); pure (.str (repS w j.toNat))
  | .fdiv, .int i, .int j => do guardM (j ≠ 0 ∧ j.natAbs.log2 < 9000); pure (.int (i.fdiv j))
  | .mod, .int i, .int j => do guardM (j ≠ 0); pure (.int (i.fmod j))
  | .pow, .int i, .int j => do guardM (0 ≤ j ∧ j ≤ 1000000 ∧ i.natAbs < 2 ^ 64); pure (.int (i ^ j.toNat))
  | _, _, _ => bad
def negD : D → M D
  | .int i => pure (.int (-i))
  | .rat a => do guardM (Sm a); pure (.rat (-a))
  | _ => bad
def anyEq (x : D) : List D → Option Bool
  | [] => some false
  | d :: ds => match D.eqv d x with
    | some false => anyEq x ds
    | r => r
def isNon : D → Bool
  | .non => true
  | _ => false
def isBl (c : Bool) : D → Bool
  | .bl b => b == c
  | _ => false
def cmpD : CmpOp → D → D → M Bool
  | .Eq, a, b => do guardM (canC false a b = true); ofO (D.eqv a b)
  | .NotEq, a, b => do guardM (canC true a b = true); let r ← ofO (D.eqv a b); pure (!r)
  | .Lt, .int i, .int j => pure (decide (i < j))
  | .LtE, .int i, .int j => pure (decide (i ≤ j))
  | .Gt, .int i, .int j => pure (decide (j < i))
  | .GtE, .int i, .int j => pure (decide (j ≤ i))
  | .Is, a, .non => pure (isNon a)
  | .IsNot, a, .non => pure (!isNon a)
  | .Is, a, .bl c => pure (isBl c a)
  | .IsNot, a, .bl c => pure (!isBl c a)
  | .In, x, .lst _ ds => do guardM (canIn x ds = true); ofO (anyEq x ds)
  | .In, x, .tup ds => do guardM (canIn x ds = true); ofO (anyEq x ds)
  | .NotIn, x, .lst _ ds => do guardM (canIn x ds = true); let r ← ofO (anyEq x ds); pure (!r)
  | .NotIn, x, .tup ds => do guardM (canIn x ds = true); let r ← ofO (anyEq x ds); pure (!r)
  | _, _, _ => bad
def truth : D → M Bool
  | .non => pure false
  | .bl b => pure b
  | .int i => pure (i != 0)
  | .tup ds => pure (!ds.isEmpty)
  | .lst _ ds => pure (!ds.isEmpty)
  | _ => bad
def toB : D → M Bool
  | .bl b => pure b
  | _ => bad
/-- the place of an index -/
def pix (n : Nat) (i : Int) : Option Nat := if 0 ≤ i then (if i < n then some i.toNat else none) else if -(n : Int) ≤ i then some (i + n).toNat else none
def ixD (d : D) (k : D) : M D := match d, k with
  | .tup ds, .int i => ofO ((pix ds.length i).bind fun j => ds[j]?)
  | .lst _ ds, .int i => ofO ((pix ds.length i).bind fun j => ds[j]?)
  | .strm, .int i => do
    let s ← getS
    if i = 0 then pure (.lst false (s.cells.map .int)) else if i = 1 then pure (.int s.cell) else if i = 2 then pure (.int s.ix) else if i = 3 then pure (.int s.mixed) else bad
  | .str w, .int i => do
    guardM (w.length ≤ LIM)
    let c ← ofO ((pix w.cps.toList.length i).bind fun j => w.cps.toList[j]?)
    pure (.str ⟨#[c]⟩)
  | _, _ => bad
def six (n d : Nat) : Option Int → Nat
  | none => d
  | some v => if v < 0 then (v + n).toNat else min v.toNat n
def cut {α : Type} (xs : List α) (lo hi : Option Int) : List α := (xs.drop (six xs.length 0 lo)).take (six xs.length xs.length hi - six xs.length 0 lo)
def slD (d : D) (lo hi : Option Int) : M D := match d with
  | .tup ds => pure (.tup (cut ds lo hi))
  | .lst _ ds => pure (.lst true (cut ds lo hi))
  | _ => bad
def isD : D → Ty → M Bool
  | .strm, _ => bad
  | .scr _, _ => bad
  | .rat _, .ratio => pure true
  | .tup _, .tuple => pure true
  | .lst _ _, .list => pure true
  | .int _, .int => pure true
  | .bl _, .int => pure true
  | .bl _, .bool => pure true
  | .str _, .str => pure true
  | _, _ => pure false
def bools : List D → Option (List Bool)
  | [] => some []
  | .bl b :: ds => (bools ds).map (b :: ·)
  | _ :: _ => none
def intsD : List D → Option (List Int)
  | [] => some []
  | .int b :: ds => (intsD ds).map (b :: ·)
  | _ :: _ => none
def biD : BF → List D → M D
  | .len, [.lst _ ds] => pure (.int ds.length)
  | .len, [.tup ds] => pure (.int ds.length)
  | .abs, [.int i] => pure (.int (if i < 0 then -i else i))
  | .int, [.int i] => pure (.int i)
  | .int, [.bl b] => pure (.int (if b then 1 else 0))
  | .list, [.scr ns] => pure (.lst true (ns.map .int))
  | .list, [.lst _ ds] => pure (.lst true ds)
  | .list, [.tup ds] => pure (.lst true ds)
  | .tuple, [.lst _ ds] => pure (.tup ds)
  | .tuple, [.tup ds] => pure (.tup ds)
  | .any, [.lst _ ds] => do let bs ← ofO (bools ds); pure (.bl (bs.any id))
  | .all, [.lst _ ds] => do let bs ← ofO (bools ds); pure (.bl (bs.all id))
  | .sum, [.lst _ ds] => do let is ← ofO (intsD ds); pure (.int is.sum)
  | .max, [.int i, .int j] => pure (.int (if j > i then j else i))
  | .min, [.int i, .int j] => pure (.int (if j < i then j else i))
  | .repr, [.bl b] => pure (.str (Str.ofString (if b then "True" else "False")))
  | .str, [.int i] => do guardM (i.natAbs.log2 < 1920); pure (.str (Str.ofString (toString i)))
  | .len, [.str s] => do guardM (s.length ≤ LIM); pure (.int s.length)
  | _, _ => bad
def mkD : List D → M D
  | [.int n] => pure (.rat n)
  | [.int n, .int d] => if d = 0 then err "ByZero" else do guardM (d.natAbs.log2 < 9000); pure (.rat (Rat.divInt n d))
  | _ => bad
/-- Ratio(1, d) -/
def mkID : D → M D
  | .int d => do guardM (d ≠ 0); pure (.rat (Rat.divInt 1 d))
  | _ => bad
def isPath : ME → Bool
  | .var _ => true
  | .ix a _ => isPath a
  | _ => false
/-- what an operand that is only read hands on -/
def elemsOk : D → Bool
  | .tup ds => D.noOwns ds
  | .lst _ ds => D.noOwns ds
  | _ => true
def wipeE (env : En) : List Nat → En
  | [] => env
  | i :: is => (wipeE env is).set i none
def setE (env : En) (i : Nat) (d : D) : En := env.set i (some d)
def setsE : List Nat → List D → En → M En
  | [], [], env => pure env
  | i :: is, d :: ds, env => setsE is ds (setE env i d)
  | _, _, _ => bad
def asgT (t : Tg) (d : D) (env : En) : M En := match t with
  | .nm i => pure (setE env i d)
  | .tup is => match d with
    | .tup ds => setsE is ds env
    | .lst _ ds => setsE is ds env
    | _ => bad
def Tg.slots : Tg → List Nat
  | .nm i => [i]
  | .tup is => is
def rangeD (lo : Int) (n : Nat) : List D := (List.range n).map fun (i : Nat) => D.int (lo + i)
def enumD : Nat → List D → List D
  | _, [] => []
  | n, d :: ds => .tup [.int n, d] :: enumD (n + 1) ds
def zipD : List D → List D → List D
  | a :: as, b :: bs => .tup [a, b] :: zipD as bs
  | _, _ => []
def seqD : D → M (List D)
  | .scr ns => pure (ns.map .int)
  | .tup ds => pure ds
  | .lst _ ds => pure ds
  | _ => bad
def lcD (f : D → M (Option D)) : List D → M (List D)
  | [] => pure []
  | x :: xs => do
    let r ← f x
    let rs ← lcD f xs
    match r with
    | some y => pure (y :: rs)
    | none => pure rs

abbrev CF := String → List D → M D
/-- how an expression is asked: for a value that is kept, for one that is looked at alone, for its truth -/
inductive Md where
  | v | p | t
  deriving DecidableEq
/-- an operand that is read, its items handed on -/
def bw (a : ME) (m : M D) : M D := do
  let d ← m
  guardM (isPath a = false ∨ elemsOk d = true)
  pure d
def isNop : ME → Bool
  | .nop => true
  | _ => false
def optI (e : ME) (m : M D) : M (Option Int) := if isNop e then pure none else do
  let d ← m
  match d with
  | .int i => pure (some i)
  | _ => bad
def tru (m : M D) : M Bool := do let d ← m; truth d
def notB (m : M Bool) : M D := do let b ← m; pure (.bl (!b))
def numD : D → M D
  | .rat q => pure (.int q.num)
  | _ => bad
def denD : D → M D
  | .rat q => pure (.int q.den)
  | _ => bad
def rngD : D → M (List D)
  | .int n => do guardM (-LIM ≤ n ∧ n ≤ LIM); pure (rangeD 0 n.toNat)
  | _ => bad
def rng2D : D → D → M (List D)
  | .int l, .int n => do guardM (-LIM ≤ l ∧ l ≤ LIM ∧ -LIM ≤ n ∧ n ≤ LIM); pure (rangeD l (n - l).toNat)
  | _, _ => bad
def lenD : D → M D
  | .lst _ ds => pure (.int ds.length)
  | .tup ds => pure (.int ds.length)
  | _ => bad
def strsD : List D → Option (List Str)
  | [] => some []
  | .str w :: ds => (strsD ds).map (w :: ·)
  | _ :: _ => none
/-- texts put together -/
def joinD : D → M D
  | .lst _ ds => do
    let ws ← ofO (strsD ds)
    guardM ((ws.map (·.length)).sum ≤ LIM)
    pure (.str (Str.join ⟨#[]⟩ ws))
  | _ => bad
def revD : D → M D
  | .lst _ ds => do guardM (D.noOwns ds = true); pure (.lst true ds.reverse)
  | .tup ds => do guardM (D.noOwns ds = true); pure (.tup ds.reverse)
  | _ => bad
section
variable (cf : CF)
mutual
def ev (env : En) (p : Md) : ME → M D
  | .nop => bad
  | .non => pure .non
  | .bl b => pure (.bl b)
  | .int i => pure (.int i)
  | .str s => pure (.str (Str.ofString s))
  | .var i => match env[i]? with
    | some (some d) => do guardM (p ≠ .v ∨ d.noOwn = true); pure d
    | _ => bad
  | .glob _ i => pure (.int i)
  | .bin op a b => do
    let x ← bw a (ev env .p a)
    let y ← bw b (ev env .p b)
    binD op x y
  | .neg a => do let x ← ev env .v a; negD x
  | .cmp op a b => do
    let x ← ev env .p a
    let y ← ev env .p b
    let r ← cmpD op x y
    pure (.bl r)
  | .chain op op' a b c => do
    let x ← ev env .v a
    let y ← ev env .v b
    let r ← cmpD op x y
    if r then do
      let z ← ev env .v c
      let r' ← cmpD op' y z
      pure (.bl r')
    else pure (.bl false)
  | .not a => match p with
    | .t => notB (tru (ev env .t a))
    | _ => notB (tru (ev env .p a))
  | .and a b => match p with
    | .t => do
      let c ← tru (ev env .t a)
      if c then do let r ← tru (ev env .t b); pure (.bl r) else pure (.bl false)
    | _ => do
      let x ← ev env .v a
      let c ← toB x
      if c then ev env .v b else pure (.bl false)
  | .or a b => match p with
    | .t => do
      let c ← tru (ev env .t a)
      if c then pure (.bl true) else do let r ← tru (ev env .t b); pure (.bl r)
    | _ => do
      let x ← ev env .v a
      let c ← toB x
      if c then pure (.bl true) else ev env .v b
  | .ifx c a b => match p with
    | .t => bad
    | _ => do
      let r ← tru (ev env .t c)
      if r then ev env .v a else ev env .v b
  | .ix a k => do
    let d ← ev env .p a
    let i ← ev env .v k
    let r ← ixD d i
    guardM (p ≠ .v ∨ isPath a = false ∨ r.noOwn = true)
    pure r
  | .sl a lo hi => do
    let d ← bw a (ev env .p a)
    let l ← optI lo (ev env .v lo)
    let h ← optI hi (ev env .v hi)
    slD d l h
  | .top a => do let x ← ev env .v a; numD x
  | .bot a => do let x ← ev env .v a; denD x
  | .tup as => do let ds ← evs env as; pure (.tup ds)
  | .lst as => do let ds ← evs env as; pure (.lst true ds)
  | .call f as => do
    let ds ← evas env as
    let d ← cf f (D.strips ds)
    guardM (d.noShr = true ∨ D.noOwns ds = true)
    pure d
  | .bi b as => do let ds ← evbs env as; biD b ds
  | .mk as => do let ds ← evs env as; mkD ds
  | .isi a t => do let x ← ev env .p a; let b ← isD x t; pure (.bl b)
  | .lc t it c e => do
    let ds ← items env it
    guardM (ds.length ≤ LIM ∧ D.noOwns ds = true)
    let rs ← lcD (fun d => do
      let env' ← asgT t d (wipeE env t.slots)
      let b ← (if isNop c then pure true else tru (ev env' .t c))
      if b then do let r ← ev env' .v e; pure (some r) else pure none) ds
    pure (.lst true rs)
  | .rev a => do let d ← ev env .v a; revD d
  | .jn a => do let d ← ev env .v a; joinD d
  | .mkI a => do let d ← ev env .v a; mkID d
  | .lrg a => do let d ← ev env .v a; let ds ← rngD d; pure (.lst true ds)
  | .fz a => do let d ← ev env .v a; pure d.strip
  | .ln a => do let d ← ev env .p a; lenD d
def evs (env : En) : MEs → M (List D)
  | .nil => pure []
  | .cons a as => do
    let d ← ev env .v a
    let ds ← evs env as
    pure (d :: ds)
/-- arguments of a def: what they are own of is lent -/
def evas (env : En) : MEs → M (List D)
  | .nil => pure []
  | .cons a as => do
    let d ← ev env .p a
    let ds ← evas env as
    pure (d :: ds)
def evbs (env : En) : MEs → M (List D)
  | .nil => pure []
  | .cons a as => do
    let d ← bw a (ev env .p a)
    let ds ← evbs env as
    pure (d :: ds)
def items (env : En) : MI → M (List D)
  | .seq a => do let d ← ev env .v a; seqD d
  | .rng a => do let d ← ev env .v a; rngD d
  | .rng2 a b => do
    let d ← ev env .v a
    let d' ← ev env .v b
    rng2D d d'
  | .enum a => do let d ← ev env .v a; let ds ← seqD d; pure (enumD 0 ds)
  | .zip a b => do
    let d ← ev env .v a
    let d' ← ev env .v b
    guardM (d.noOwn = true ∧ d'.noOwn = true)
    let ds ← seqD d
    let ds' ← seqD d'
    pure (zipD ds ds')
end

/-! ### statements -/
inductive Fl where
  | nx (e : En) | ret (d : D) | brk (e : En) | cont (e : En)
def kilE (l : List Nat) (e : En) : En := wipeE e l
def forL (body : En → M Fl) (t : Tg) (kill : List Nat) : List D → En → M Fl
  | [], e => pure (.nx e)
  | x :: xs, e => do
    let e1 ← asgT t x e
    let r ← body e1
    match r with
    | .nx e2 => forL body t kill xs (kilE kill e2)
    | .cont e2 => forL body t kill xs (kilE kill e2)
    | .brk e2 => pure (.nx (kilE kill e2))
    | .ret d => pure (.ret d)
def whileL (test : En → M Bool) (body : En → M Fl) (kill : List Nat) : Nat → En → M Fl
  | 0, _ => bad
  | n + 1, e => do
    let b ← test e
    if b then do
      let r ← body e
      match r with
      | .nx e2 => whileL test body kill n (kilE kill e2)
      | .cont e2 => whileL test body kill n (kilE kill e2)
      | .brk e2 => pure (.nx (kilE kill e2))
      | .ret d => pure (.ret d)
    else pure (.nx e)
def getE (env : En) (i : Nat) : M D := match env[i]? with
  | some (some d) => pure d
  | _ => bad
def setAt (ds : List D) (i : Int) (d : D) : Option (List D) := (pix ds.length i).map fun j => ds.set j d
def set1D (o k d : D) : M D := match o, k with
  | .lst true ds, .int i => do let r ← ofO (setAt ds i d); pure (.lst true r)
  | .strm, .int i => match d with
    | .int z => do
      let s ← getS
      if i = 1 then do setS { s with cell := z }; pure .strm
      else if i = 2 then do setS { s with ix := z }; pure .strm
      else if i = 3 then do setS { s with mixed := z }; pure .strm
      else bad
    | _ => bad
  | _, _ => bad
def set2D (o k l d : D) : M D := match o, k with
  | .lst true ds, .int i => do
    let r ← ofO ((pix ds.length i).bind fun j => ds[j]?)
    match r, l with
    | .lst true rs, .int m => do
      let r' ← ofO (setAt rs m d)
      let q ← ofO (setAt ds i (.lst true r'))
      pure (.lst true q)
    | _, _ => bad
  | _, _ => bad
/-- a row whose first item is None and that ends with 0, in place of a row -/
def spoil1 : D → Option D
  | .lst true (_ :: xs) => if xs.length + 1 < LIM then some (.lst true (.non :: (xs ++ [.int 0]))) else none
  | _ => none
def spoilL : List D → Option (List D)
  | [] => some []
  | d :: ds => match spoil1 d, spoilL ds with
    | some a, some b => some (a :: b)
    | _, _ => none
def spoilD (o : D) : M D := match o with
  | .lst true ds => do let r ← ofO (spoilL ds); pure (.lst true r)
  | _ => bad
/-- 0 behind the first row -/
def app0D (o : D) : M D := match o with
  | .lst true (.lst true xs :: ds) => do guardM (xs.length < LIM); pure (.lst true (.lst true (xs ++ [.int 0]) :: ds))
  | _ => bad
/-- 0 behind every row -/
def sp01 : D → Option D
  | .lst true xs => if xs.length < LIM then some (.lst true (xs ++ [.int 0])) else none
  | _ => none
def sp0L : List D → Option (List D)
  | [] => some []
  | d :: ds => match sp01 d, sp0L ds with
    | some a, some b => some (a :: b)
    | _, _ => none
def sp0D (o : D) : M D := match o with
  | .lst true ds => do let r ← ofO (sp0L ds); pure (.lst true r)
  | _ => bad
/-- rows of fractions -/
def ratsO : List D → Option (List Rat)
  | [] => some []
  | .rat q :: ds => (ratsO ds).map (q :: ·)
  | _ :: _ => none
def rowO (o : Bool) : D → Option (List Rat)
  | .lst o' es => if o' = o then ratsO es else none
  | _ => none
def rowsO (o : Bool) : List D → Option (List (List Rat))
  | [] => some []
  | d :: ds => match rowO o d, rowsO o ds with
    | some a, some b => some (a :: b)
    | _, _ => none
def rowsOf (o : Bool) : D → Option (List (List Rat))
  | .lst true ds => rowsO o ds
  | _ => none
def rowsD (o : Bool) (rs : List (List Rat)) : List D := rs.map fun r => .lst o (r.map .rat)
/-- x[k].append(e) -/
def app2D (o k d : D) : M D := match o, k with
  | .lst true ds, .int i => do
    guardM (d.noOwn = true)
    let r ← ofO ((pix ds.length i).bind fun j => ds[j]?)
    match r with
    | .lst true xs => do
      guardM (xs.length < LIM)
      let q ← ofO (setAt ds i (.lst true (xs ++ [d])))
      pure (.lst true q)
    | _ => bad
  | _, _ => bad
def appD (o d : D) : M D := match o with
  | .lst true ds => do guardM (ds.length < LIM); pure (.lst true (ds ++ [d]))
  | _ => bad
def extD (o d : D) : M D := match o, d with
  | .lst true ds, .lst _ es => do guardM (ds.length + es.length ≤ LIM); pure (.lst true (ds ++ es))
  | _, _ => bad
def insAt (ds : List D) (i : Int) (d : D) : List D := ds.take i.toNat ++ d :: ds.drop i.toNat
def insD (o k d : D) : M D := match o, k with
  | .lst true ds, .int i => do guardM (ds.length < LIM ∧ 0 ≤ i ∧ i ≤ ds.length); pure (.lst true (insAt ds i d))
  | _, _ => bad
def popD (o k : D) : M (D × D) := match o, k with
  | .lst true ds, .int i => do
    guardM (ds.length ≤ LIM)
    let j ← ofO (pix ds.length i)
    let d ← ofO ds[j]?
    pure (d, .lst true (ds.eraseIdx j))
  | _, _ => bad
def strmD : D → Option Strm
  | .lst true [.lst _ cs, .int c, .int i, .int m] => (intsD cs).map fun ns => ⟨ns, c, i, m⟩
  | _ => none
def augD : D → D → M D
  | .int i, .int j => pure (.int (i + j))
  | _, _ => bad

mutual
def run (env : En) : MS → M Fl
  | .asg t e => do let d ← ev cf env .v e; let r ← asgT t d env; pure (.nx r)
  | .par i j a b => do
    let x ← ev cf env .v a
    let y ← ev cf env .v b
    pure (.nx (setE (setE env i x) j y))
  | .aug i e => do
    let o ← getE env i
    let d ← ev cf env .v e
    let r ← augD o d
    pure (.nx (setE env i r))
  | .set1 i k e => do
    let d ← ev cf env .v e
    let kd ← ev cf env .v k
    let o ← getE env i
    let r ← set1D o kd d
    pure (.nx (setE env i r))
  | .set2 i k l e => do
    let d ← ev cf env .v e
    let kd ← ev cf env .v k
    let ld ← ev cf env .v l
    let o ← getE env i
    let r ← set2D o kd ld d
    pure (.nx (setE env i r))
  | .app i e => do
    let d ← ev cf env .v e
    let o ← getE env i
    let r ← appD o d
    pure (.nx (setE env i r))
  | .ext i e => do
    let d ← bw e (ev cf env .p e)
    let o ← getE env i
    let r ← extD o d
    pure (.nx (setE env i r))
  | .ins i k e => do
    let kd ← ev cf env .v k
    let d ← ev cf env .v e
    let o ← getE env i
    let r ← insD o kd d
    pure (.nx (setE env i r))
  | .pop t i k => do
    let kd ← ev cf env .v k
    let o ← getE env i
    let r ← popD o kd
    pure (.nx (setE (setE env i r.2) t r.1))
  | .exp e => do let _ ← ev cf env .p e; pure (.nx env)
  | .ret e => do let d ← ev cf env .v e; pure (.ret d)
  | .retv i => do let d ← getE env i; pure (.ret d)
  | .retN => pure (.ret .non)
  | .ite c a b => do
    let r ← tru (ev cf env .t c)
    if r then runs env a else runs env b
  | .loop t it body kill => do
    let ds ← items cf env it
    guardM (D.noOwns ds = true)
    forL (fun e => runs e body) t kill ds (kilE kill env)
  | .while fuel c body kill => whileL (fun e => tru (ev cf e .t c)) (fun e => runs e body) kill fuel (kilE kill env)
  | .brk => pure (.brk env)
  | .cont => pure (.cont env)
  | .pass => pure (.nx env)
  | .frz i => do let d ← getE env i; pure (.nx (setE env i d.strip))
  | .kil l => pure (.nx (kilE l env))
  | .mv i j => do let d ← getE env j; pure (.nx (setE (env.set j none) i d))
  | .appm i j => do
    let d ← getE env j
    let o ← getE (env.set j none) i
    let r ← appD o d
    pure (.nx (setE (env.set j none) i r))
  | .spoil t i => do
    guardM (t ≠ i ∧ t < env.length)
    let o ← getE env i
    let r ← spoilD o
    pure (.nx (setE (env.set t none) i r))
  | .app2 i k e => do
    let kd ← ev cf env .v k
    let d ← ev cf env .v e
    let o ← getE env i
    let r ← app2D o kd d
    pure (.nx (setE env i r))
  | .retu f i => do
    let d0 ← getE env i
    let rs0 ← ofO (rowsOf true d0)
    let s0 ← getS
    let d ← cf f [.lst false (rowsD false rs0)]
    setS s0
    let rs ← ofO (rowsOf false d)
    guardM rs.Nodup
    pure (.ret (.lst true (rowsD true rs)))
  | .iteF i c a b => do
    let d ← getE env i
    let r ← tru (ev cf (setE env i d.strip) .t c)
    if r then runs env a else runs env b
  | .spoil0 t i => do
    guardM (t ≠ i ∧ t < env.length)
    let o ← getE env i
    let r ← sp0D o
    pure (.nx (setE (env.set t none) i r))
  | .app0 i => do
    let o ← getE env i
    let r ← app0D o
    pure (.nx (setE env i r))
  | .raise c => err c
def runs (env : En) : MSs → M Fl
  | .nil => pure (.nx env)
  | .cons a as => do
    let r ← run env a
    match r with
    | .nx e => runs e as
    | r => pure r
end
end
def callF (Γ : String → Option MDef) : Nat → CF
  | 0, _, _ => bad
  | k + 1, f, ds => match Γ f with
    | some md => do
      guardM (ds.length = md.np)
      let r ← runs (callF Γ k) (ds.map some ++ List.replicate (md.n - md.np) none) md.body
      match r with
      | .nx _ => pure .non
      | .ret d => pure d
      | _ => bad
    | none => bad
end Mp

namespace Mp
open PySem PySem.Spec
open PyProof.Rows L2

/-! ### weakest preconditions of the evaluator -/
def W {α : Type} (m : M α) (s : Strm) (Q : α → Strm → Prop) : Prop := match m s with
  | .ok a s' => Q a s'
  | _ => False
theorem W_bind {α β : Type} {m : M α} {f : α → M β} {s : Strm} {Q : β → Strm → Prop} : W (m >>= f) s Q ↔ W m s fun a s' => W (f a) s' Q := by
  show W (M.bind m f) s Q ↔ _
  unfold W M.bind
  cases m s <;> rfl
theorem W_pure {α : Type} {a : α} {s : Strm} {Q : α → Strm → Prop} : W (pure a) s Q ↔ Q a s := Iff.rfl
theorem W_bad {α : Type} {s : Strm} {Q : α → Strm → Prop} : W (bad : M α) s Q ↔ False := Iff.rfl
theorem W_guard {c : Prop} [Decidable c] {s : Strm} {Q : Unit → Strm → Prop} : W (guardM c) s Q ↔ c ∧ Q () s := by
  unfold guardM
  by_cases h : c
  · rw [if_pos h]; exact ⟨fun q => ⟨h, q⟩, fun q => q.2⟩
  · rw [if_neg h]; exact ⟨fun q => q.elim, fun q => (h q.1).elim⟩
theorem W_ofO {α : Type} {o : Option α} {s : Strm} {Q : α → Strm → Prop} : W (ofO o) s Q ↔ ∃ a, o = some a ∧ Q a s := by
  cases o with
  | none => exact ⟨fun q => q.elim, fun ⟨a, e, _⟩ => by cases e⟩
  | some a => exact ⟨fun q => ⟨a, rfl, q⟩, fun ⟨b, e, q⟩ => by cases e; exact q⟩
theorem W_ite {α : Type} {c : Prop} [Decidable c] {m n : M α} {s : Strm} {Q : α → Strm → Prop} : W (if c then m else n) s Q ↔ if c then W m s Q else W n s Q := by
  by_cases h : c
  · rw [if_pos h, if_pos h]
  · rw [if_neg h, if_neg h]
theorem W_getS {s : Strm} {Q : Strm → Strm → Prop} : W getS s Q ↔ Q s s := Iff.rfl
theorem W_mono {α : Type} {m : M α} {s : Strm} {Q Q' : α → Strm → Prop} (h : W m s Q) (hq : ∀ a s', Q a s' → Q' a s') : W m s Q' := by
  unfold W at h ⊢
  cases e : m s with
  | ok a s' => rw [e] at h; exact hq _ _ h
  | err c s' => rw [e] at h; exact h.elim
  | bad => rw [e] at h; exact h.elim

/-! ### how trees lie in the heap -/
abbrev GS := Addr → Prop
/-- the fields of a Ratio -/
def Flds (fs : List (Str × V)) (q : Rat) : Prop := fs.lookup ("top" : Str) = some (V.int q.num) ∧ fs.lookup ("bottom" : Str) = some (V.int q.den)
def KL (K : PySem.W.Frag) (a : Addr) (xs : List V) : Prop := ∃ (o : Obj) (its : Array Value) (n : Nat), K.lookup a = some o ∧ o.cls = .type "list" ∧ o.dict = none ∧ o.data = .seq its n ∧ its.size ≤ sizeLine ∧ Vals xs its.toList
/-- the script -/
def Scr (K : PySem.W.Frag) (H : Hp) (a : Addr) (ns : List Int) : Prop := (∃ o, H a = some (.frz o (.lst (ns.map V.int)))) ∨ KL K a (ns.map V.int)
section
variable (K : PySem.W.Frag) (C : Addr) (p0 : Option Addr)
mutual
def Rep (H : Hp) (G : GS) : D → V → List Addr → Prop
  | .non, v, fp => v = .non ∧ fp = []
  | .bl b, v, fp => v = .bl b ∧ fp = []
  | .int i, v, fp => v = .int i ∧ fp = []
  | .str s, v, fp => v = .str s ∧ fp = []
  | .rat q, v, fp => (∃ p dx fs, v = .ref p ∧ H p = some (.ins C dx fs) ∧ Flds fs q) ∧ fp = []
  | .tup ds, v, fp => ∃ p vs, v = .ref p ∧ H p = some (.tup vs) ∧ Reps H G ds vs fp
  | .lst o ds, v, fp => ∃ p vs f, v = .ref p ∧ H p = some (.lst vs) ∧ some p ≠ p0 ∧ Reps H G ds vs f ∧ ((o = true ∧ ¬ G p ∧ fp = p :: f) ∨ (o = false ∧ G p ∧ f = [] ∧ fp = []))
  | .strm, v, fp => ∃ p, p0 = some p ∧ v = .ref p ∧ fp = []
  | .scr ns, v, fp => (∃ p, v = .ref p ∧ Scr K H p ns) ∧ fp = []
def Reps (H : Hp) (G : GS) : List D → List V → List Addr → Prop
  | [], vs, fp => vs = [] ∧ fp = []
  | d :: ds, vs, fp => ∃ v r f g, vs = v :: r ∧ fp = f ++ g ∧ Rep H G d v f ∧ Reps H G ds r g
end
/-- what an expression leaves: all that was tracked (but the stream), the frozen ones -/
structure Grow (H : Hp) (G : GS) (H' : Hp) (G' : GS) : Prop where
  keep : ∀ p o, some p ≠ p0 → H p = some o → H' p = some o
  gs : ∀ p, G p → G' p
  new : ∀ p o, some p ≠ p0 → G' p → H p = some o → G p
  hd : ∀ p x xs, p0 = some p → H p = some (.lst (x :: xs)) → ∃ ys, H' p = some (.lst (x :: ys))
/-- the stream's objects -/
def StAt (H : Hp) (G : GS) (s : Strm) : Prop := ∀ p, p0 = some p → ∃ pc, H p = some (.lst [.ref pc, .int s.cell, .int s.ix, .int s.mixed]) ∧ H pc = some (.lst (s.cells.map .int)) ∧ pc ≠ p ∧ G pc ∧ s.cells.length ≤ LIM
def RepE (H : Hp) (G : GS) : En → List (Option V) → List Addr → Prop
  | [], σ, fp => σ = [] ∧ fp = []
  | none :: e, σ, fp => ∃ x r, σ = x :: r ∧ RepE H G e r fp
  | some d :: e, σ, fp => ∃ v r f g, σ = some v :: r ∧ fp = f ++ g ∧ Rep K C p0 H G d v f ∧ RepE H G e r g
structure StX (H0 : Hp) (G0 : GS) (H : Hp) (G : GS) (s : Strm) (env : En) (σ : L2.St) : Prop where
  grow : Grow p0 H0 G0 H G
  strm : StAt p0 H G s
  gs : ∀ p, G p → some p ≠ p0 ∧ ∃ o, H p = some o
  env : ∃ fp, RepE K C p0 H G env σ fp ∧ fp.Nodup ∧ ∀ a ∈ fp, H0 a = none
end

section
variable {K : PySem.W.Frag} {C : Addr} {p0 : Option Addr} {H H' H2 H0 : Hp} {G G' G2 G0 : GS}
theorem Grow.rfl' : Grow p0 H G H G := ⟨fun _ _ _ h => h, fun _ h => h, fun _ _ _ h _ => h, fun _ _ xs _ h => ⟨xs, h⟩⟩
theorem Grow.trans (a : Grow p0 H G H' G') (b : Grow p0 H' G' H2 G2) : Grow p0 H G H2 G2 :=
  ⟨fun p o n h => b.keep p o n (a.keep p o n h), fun p h => b.gs p (a.gs p h), fun p o n g h => a.new p o n (b.new p o n g (a.keep p o n h)) h, fun p x xs e h => let ⟨ys, h1⟩ := a.hd p x xs e h; b.hd p x ys e h1⟩
/-- the stream's own place holds a list -/
def PL (p0 : Option Addr) (H : Hp) : Prop := ∀ p, p0 = some p → ∃ xs, H p = some (.lst xs)
theorem StAt.pl {s : Strm} (h : StAt p0 H G s) : PL p0 H := fun p e => let ⟨_, h1, _⟩ := h p e; ⟨_, h1⟩
theorem PL.ne (h : PL p0 H) {p : Addr} {o : HO} (e : H p = some o) (n : ∀ xs, o ≠ .lst xs) : some p ≠ p0 := fun z => by
  obtain ⟨xs, q⟩ := h p z.symm
  rw [e] at q
  exact n xs (Option.some.inj q)
mutual
theorem Rep.grow (h : PL p0 H) (g : Grow p0 H G H' G') : ∀ {d : D} {v : V} {fp : List Addr}, Rep K C p0 H G d v fp → Rep K C p0 H' G' d v fp
  | .non, _, _, r => by unfold Rep at r ⊢; exact r
  | .bl _, _, _, r => by unfold Rep at r ⊢; exact r
  | .int _, _, _, r => by unfold Rep at r ⊢; exact r
  | .str _, _, _, r => by unfold Rep at r ⊢; exact r
  | .rat q, _, _, r => by
    unfold Rep at r ⊢
    obtain ⟨⟨p, dx, fs, e, q1, q2⟩, e2⟩ := r
    exact ⟨⟨p, dx, fs, e, g.keep _ _ (h.ne q1 fun _ z => by cases z) q1, q2⟩, e2⟩
  | .tup ds, _, _, r => by
    unfold Rep at r ⊢
    obtain ⟨p, vs, e, q1, q2⟩ := r
    exact ⟨p, vs, e, g.keep _ _ (h.ne q1 fun _ z => by cases z) q1, Reps.grow h g q2⟩
  | .lst o ds, _, _, r => by
    unfold Rep at r ⊢
    obtain ⟨p, vs, f, e, q1, np, q2, q3⟩ := r
    refine ⟨p, vs, f, e, g.keep _ _ np q1, np, Reps.grow h g q2, ?_⟩
    rcases q3 with ⟨a, b, c⟩ | ⟨a, b, c⟩
    · exact .inl ⟨a, fun z => b (g.new _ _ np z q1), c⟩
    · exact .inr ⟨a, g.gs _ b, c⟩
  | .strm, _, _, r => by unfold Rep at r ⊢; exact r
  | .scr ns, _, _, r => by
    unfold Rep at r ⊢
    obtain ⟨⟨p, e, q⟩, e2⟩ := r
    refine ⟨⟨p, e, ?_⟩, e2⟩
    rcases q with ⟨o, q⟩ | q
    · exact .inl ⟨o, g.keep _ _ (h.ne q fun _ z => by cases z) q⟩
    · exact .inr q
theorem Reps.grow (h : PL p0 H) (g : Grow p0 H G H' G') : ∀ {ds : List D} {vs : List V} {fp : List Addr}, Reps K C p0 H G ds vs fp → Reps K C p0 H' G' ds vs fp
  | [], _, _, r => by unfold Reps at r ⊢; exact r
  | d :: ds, _, _, r => by
    unfold Reps at r ⊢
    obtain ⟨v, r', f, g', e1, e2, a, b⟩ := r
    exact ⟨v, r', f, g', e1, e2, Rep.grow h g a, Reps.grow h g b⟩
end
mutual
theorem Rep.noOwn : ∀ {d : D} {v : V} {fp : List Addr}, Rep K C p0 H G d v fp → d.noOwn = true → fp = []
  | .non, _, _, r, _ => by unfold Rep at r; exact r.2
  | .bl _, _, _, r, _ => by unfold Rep at r; exact r.2
  | .int _, _, _, r, _ => by unfold Rep at r; exact r.2
  | .str _, _, _, r, _ => by unfold Rep at r; exact r.2
  | .rat q, _, _, r, _ => by unfold Rep at r; exact r.2
  | .tup ds, _, _, r, n => by
    unfold Rep at r
    obtain ⟨p, vs, e, q1, q2⟩ := r
    exact Reps.noOwn q2 n
  | .lst o ds, _, _, r, n => by
    unfold Rep at r
    unfold D.noOwn at n
    obtain ⟨p, vs, f, e, q1, np, q2, q3⟩ := r
    rcases q3 with ⟨a, b, c⟩ | ⟨a, b, c⟩
    · subst a; cases n
    · exact c.2
  | .strm, _, _, r, _ => by unfold Rep at r; obtain ⟨_, _, _, e⟩ := r; exact e
  | .scr ns, _, _, r, _ => by unfold Rep at r; exact r.2
theorem Reps.noOwn : ∀ {ds : List D} {vs : List V} {fp : List Addr}, Reps K C p0 H G ds vs fp → D.noOwns ds = true → fp = []
  | [], _, _, r, _ => by unfold Reps at r; exact r.2
  | d :: ds, _, _, r, n => by
    unfold Reps at r
    obtain ⟨v, r', f, g', e1, e2, a, b⟩ := r
    have n' : (d.noOwn && D.noOwns ds) = true := n
    rw [Bool.and_eq_true] at n'
    rw [e2, Rep.noOwn a n'.1, Reps.noOwn b n'.2] <;> rfl
end
mutual
theorem Rep.mem : ∀ {d : D} {v : V} {fp : List Addr}, Rep K C p0 H G d v fp → ∀ a ∈ fp, ¬ G a ∧ some a ≠ p0 ∧ ∃ xs, H a = some (.lst xs)
  | .non, _, _, r => by unfold Rep at r; rw [r.2]; simp
  | .bl _, _, _, r => by unfold Rep at r; rw [r.2]; simp
  | .int _, _, _, r => by unfold Rep at r; rw [r.2]; simp
  | .str _, _, _, r => by unfold Rep at r; rw [r.2]; simp
  | .rat q, _, _, r => by unfold Rep at r; rw [r.2]; simp
  | .tup ds, _, _, r => by
    unfold Rep at r
    obtain ⟨p, vs, e, q1, q2⟩ := r
    exact Reps.mem q2
  | .lst o ds, _, _, r => by
    unfold Rep at r
    obtain ⟨p, vs, f, e, q1, np, q2, q3⟩ := r
    rcases q3 with ⟨a, b, c⟩ | ⟨a, b, c⟩
    · rw [c]
      intro x hx
      rcases List.mem_cons.mp hx with rfl | hx
      · exact ⟨b, np, _, q1⟩
      · exact Reps.mem q2 x hx
    · rw [c.2]; simp
  | .strm, _, _, r => by unfold Rep at r; obtain ⟨_, _, _, e⟩ := r; rw [e]; simp
  | .scr ns, _, _, r => by unfold Rep at r; rw [r.2]; simp
theorem Reps.mem : ∀ {ds : List D} {vs : List V} {fp : List Addr}, Reps K C p0 H G ds vs fp → ∀ a ∈ fp, ¬ G a ∧ some a ≠ p0 ∧ ∃ xs, H a = some (.lst xs)
  | [], _, _, r => by unfold Reps at r; rw [r.2]; simp
  | d :: ds, _, _, r => by
    unfold Reps at r
    obtain ⟨v, r', f, g', e1, e2, a, b⟩ := r
    rw [e2]
    intro x hx
    rcases List.mem_append.mp hx with hx | hx
    · exact Rep.mem a x hx
    · exact Reps.mem b x hx
end
mutual
/-- lent: what was own is frozen -/
theorem Rep.lend {G1 : GS} (h1 : ∀ p, G p → G1 p) : ∀ {d : D} {v : V} {fp : List Addr}, Rep K C p0 H G d v fp → (∀ a ∈ fp, G1 a) → Rep K C p0 H G1 d.strip v []
  | .non, _, _, r, _ => by unfold D.strip; unfold Rep at r ⊢; exact ⟨r.1, rfl⟩
  | .bl _, _, _, r, _ => by unfold D.strip; unfold Rep at r ⊢; exact ⟨r.1, rfl⟩
  | .int _, _, _, r, _ => by unfold D.strip; unfold Rep at r ⊢; exact ⟨r.1, rfl⟩
  | .str _, _, _, r, _ => by unfold D.strip; unfold Rep at r ⊢; exact ⟨r.1, rfl⟩
  | .rat q, _, _, r, _ => by unfold D.strip; unfold Rep at r ⊢; exact ⟨r.1, rfl⟩
  | .tup ds, _, _, r, m => by
    unfold D.strip
    unfold Rep at r ⊢
    obtain ⟨p, vs, e, q1, q2⟩ := r
    exact ⟨p, vs, e, q1, Reps.lend h1 q2 m⟩
  | .lst o ds, _, _, r, m => by
    unfold D.strip
    unfold Rep at r ⊢
    obtain ⟨p, vs, f, e, q1, np, q2, q3⟩ := r
    rcases q3 with ⟨a, b, c⟩ | ⟨a, b, c⟩
    · refine ⟨p, vs, [], e, q1, np, Reps.lend h1 q2 fun x hx => m x (by rw [c]; exact List.mem_cons_of_mem _ hx), .inr ⟨rfl, m p (by rw [c]; exact List.mem_cons_self), rfl, rfl⟩⟩
    · obtain ⟨c1, c2⟩ := c
      exact ⟨p, vs, [], e, q1, np, Reps.lend h1 q2 (by rw [c1]; simp), .inr ⟨rfl, h1 _ b, rfl, rfl⟩⟩
  | .strm, _, _, r, _ => by unfold D.strip; unfold Rep at r ⊢; obtain ⟨p, a, b, _⟩ := r; exact ⟨p, a, b, rfl⟩
  | .scr ns, _, _, r, _ => by unfold D.strip; unfold Rep at r ⊢; exact ⟨r.1, rfl⟩
theorem Reps.lend {G1 : GS} (h1 : ∀ p, G p → G1 p) : ∀ {ds : List D} {vs : List V} {fp : List Addr}, Reps K C p0 H G ds vs fp → (∀ a ∈ fp, G1 a) → Reps K C p0 H G1 (D.strips ds) vs []
  | [], _, _, r, _ => by unfold D.strips; unfold Reps at r ⊢; exact ⟨r.1, rfl⟩
  | d :: ds, _, _, r, m => by
    unfold D.strips
    unfold Reps at r ⊢
    obtain ⟨v, r', f, g', e1, e2, a, b⟩ := r
    rw [e2] at m
    exact ⟨v, r', [], [], e1, rfl, Rep.lend h1 a fun x hx => m x (List.mem_append_left _ hx), Reps.lend h1 b fun x hx => m x (List.mem_append_right _ hx)⟩
end
mutual
/-- another own list is written -/
theorem Rep.wrt {p : Addr} {ys zs : List V} (hp : H p = some (.lst zs)) (hG : ¬ G p) : ∀ {d : D} {v : V} {fp : List Addr}, Rep K C p0 H G d v fp → p ∉ fp → Rep K C p0 (upd H p (.lst ys)) G d v fp
  | .non, _, _, r, _ => by unfold Rep at r ⊢; exact r
  | .bl _, _, _, r, _ => by unfold Rep at r ⊢; exact r
  | .int _, _, _, r, _ => by unfold Rep at r ⊢; exact r
  | .str _, _, _, r, _ => by unfold Rep at r ⊢; exact r
  | .rat q, _, _, r, _ => by
    unfold Rep at r ⊢
    obtain ⟨⟨x, dx, fs, e, q1, q2⟩, e2⟩ := r
    exact ⟨⟨x, dx, fs, e, by rw [upd_ne (ne_of q1 hp fun z => by cases z)]; exact q1, q2⟩, e2⟩
  | .tup ds, _, _, r, n => by
    unfold Rep at r ⊢
    obtain ⟨x, vs, e, q1, q2⟩ := r
    exact ⟨x, vs, e, by rw [upd_ne (ne_of q1 hp fun z => by cases z)]; exact q1, Reps.wrt hp hG q2 n⟩
  | .lst o ds, _, _, r, n => by
    unfold Rep at r ⊢
    obtain ⟨x, vs, f, e, q1, np, q2, q3⟩ := r
    rcases q3 with ⟨a, b, c⟩ | ⟨a, b, c⟩
    · rw [c] at n
      have n1 : x ≠ p := fun z => n (by rw [z]; exact List.mem_cons_self)
      exact ⟨x, vs, f, e, by rw [upd_ne n1]; exact q1, np, Reps.wrt hp hG q2 fun z => n (List.mem_cons_of_mem _ z), .inl ⟨a, b, c⟩⟩
    · have n1 : x ≠ p := fun z => hG (z ▸ b)
      exact ⟨x, vs, f, e, by rw [upd_ne n1]; exact q1, np, Reps.wrt hp hG q2 (by rw [c.1]; simp), .inr ⟨a, b, c⟩⟩
  | .strm, _, _, r, _ => by unfold Rep at r ⊢; exact r
  | .scr ns, _, _, r, _ => by
    unfold Rep at r ⊢
    obtain ⟨⟨x, e, q⟩, e2⟩ := r
    refine ⟨⟨x, e, ?_⟩, e2⟩
    rcases q with ⟨o, q⟩ | q
    · exact .inl ⟨o, by rw [upd_ne (ne_of q hp fun z => by cases z)]; exact q⟩
    · exact .inr q
theorem Reps.wrt {p : Addr} {ys zs : List V} (hp : H p = some (.lst zs)) (hG : ¬ G p) : ∀ {ds : List D} {vs : List V} {fp : List Addr}, Reps K C p0 H G ds vs fp → p ∉ fp → Reps K C p0 (upd H p (.lst ys)) G ds vs fp
  | [], _, _, r, _ => by unfold Reps at r ⊢; exact r
  | d :: ds, _, _, r, n => by
    unfold Reps at r ⊢
    obtain ⟨v, r', f, g', e1, e2, a, b⟩ := r
    rw [e2] at n
    exact ⟨v, r', f, g', e1, e2, Rep.wrt hp hG a fun z => n (List.mem_append_left _ z), Reps.wrt hp hG b fun z => n (List.mem_append_right _ z)⟩
end
end
end Mp

namespace Mp
open PySem PySem.Spec
open PyProof.Rows L2
section
variable {K : PySem.W.Frag} {C : Addr} {p0 : Option Addr} {H H' H2 H0 : Hp} {G G' G2 G0 : GS}
theorem nodup_app {α : Type} {f g : List α} : (f ++ g).Nodup ↔ f.Nodup ∧ g.Nodup ∧ ∀ a ∈ f, a ∉ g := by
  rw [List.nodup_append]
  constructor
  · rintro ⟨a, b, c⟩
    exact ⟨a, b, fun x hx hy => c x hx x hy rfl⟩
  · rintro ⟨a, b, c⟩
    exact ⟨a, b, fun x hx y hy e => c x hx (e ▸ hy)⟩
theorem Reps.length : ∀ {ds : List D} {vs : List V} {fp : List Addr}, Reps K C p0 H G ds vs fp → ds.length = vs.length
  | [], _, _, r => by unfold Reps at r; rw [r.1] <;> rfl
  | d :: ds, _, _, r => by
    unfold Reps at r
    obtain ⟨v, r', f, g', e1, e2, a, b⟩ := r
    rw [e1, List.length_cons, List.length_cons, Reps.length b]
theorem Reps.nil_iff {vs : List V} {fp : List Addr} : Reps K C p0 H G [] vs fp ↔ vs = [] ∧ fp = [] := by rw [Reps]
theorem Reps.cons_iff {d : D} {ds : List D} {vs : List V} {fp : List Addr} : Reps K C p0 H G (d :: ds) vs fp ↔ ∃ v r f g, vs = v :: r ∧ fp = f ++ g ∧ Rep K C p0 H G d v f ∧ Reps K C p0 H G ds r g := by
  rw [Reps]
theorem Reps.cons {d : D} {ds : List D} {v : V} {vs : List V} {f g : List Addr} (a : Rep K C p0 H G d v f) (b : Reps K C p0 H G ds vs g) : Reps K C p0 H G (d :: ds) (v :: vs) (f ++ g) :=
  Reps.cons_iff.mpr ⟨v, vs, f, g, rfl, rfl, a, b⟩
theorem Reps.nil : Reps K C p0 H G [] [] [] := Reps.nil_iff.mpr ⟨rfl, rfl⟩
theorem Reps.append : ∀ {ds es : List D} {vs ws : List V} {fp fq : List Addr}, Reps K C p0 H G ds vs fp → Reps K C p0 H G es ws fq → Reps K C p0 H G (ds ++ es) (vs ++ ws) (fp ++ fq)
  | [], _, _, _, _, _, r, q => by
    obtain ⟨rfl, rfl⟩ := Reps.nil_iff.mp r
    exact q
  | d :: ds, _, _, _, _, _, r, q => by
    obtain ⟨v, r', f, g', rfl, rfl, a, b⟩ := Reps.cons_iff.mp r
    rw [List.append_assoc]
    exact Reps.cons a (Reps.append b q)
theorem Reps.get : ∀ {ds : List D} {vs : List V} {fp : List Addr} {j : Nat} {d : D}, Reps K C p0 H G ds vs fp → ds[j]? = some d →
    ∃ v f, vs[j]? = some v ∧ Rep K C p0 H G d v f ∧ (∀ a ∈ f, a ∈ fp) ∧ (fp.Nodup → f.Nodup)
  | [], _, _, _, _, _, e => by simp at e
  | d :: ds, _, _, 0, x, r, e => by
    obtain ⟨v, r', f, g', rfl, rfl, a, b⟩ := Reps.cons_iff.mp r
    have e' : d = x := by simpa using e
    subst e'
    exact ⟨v, f, rfl, a, fun x hx => List.mem_append_left _ hx, fun n => (nodup_app.mp n).1⟩
  | d :: ds, _, _, j + 1, x, r, e => by
    obtain ⟨v, r', f, g', rfl, rfl, a, b⟩ := Reps.cons_iff.mp r
    obtain ⟨w, f', e1, e2, e3, e4⟩ := Reps.get (j := j) b (by simpa using e)
    exact ⟨w, f', by simpa using e1, e2, fun x hx => List.mem_append_right _ (e3 x hx), fun n => e4 (nodup_app.mp n).2.1⟩
/-- items that own nothing, by place -/
theorem Reps.of_get : ∀ {ds : List D} {vs : List V}, ds.length = vs.length → (∀ (j : Nat) d v, ds[j]? = some d → vs[j]? = some v → Rep K C p0 H G d v []) → Reps K C p0 H G ds vs []
  | [], [], _, _ => Reps.nil
  | d :: ds, v :: vs, l, h => by
    have := Reps.cons (h 0 d v rfl rfl) (Reps.of_get (ds := ds) (vs := vs) (by simpa using l) fun j d v a b => h (j + 1) d v (by simpa using a) (by simpa using b))
    simpa using this
theorem Reps.at {ds : List D} {vs : List V} (r : Reps K C p0 H G ds vs []) {j : Nat} {d : D} {v : V} (a : ds[j]? = some d) (b : vs[j]? = some v) : Rep K C p0 H G d v [] := by
  obtain ⟨w, f, e1, e2, e3, _⟩ := r.get a
  rw [b] at e1
  cases e1
  have : f = [] := by
    cases f with
    | nil => rfl
    | cons x _ => exact absurd (e3 x List.mem_cons_self) (by simp)
  rw [this] at e2
  exact e2
/-- the j-th item is changed, in place or by a write at an address of its own -/
theorem Reps.repl : ∀ {ds : List D} {vs : List V} {fp : List Addr} {j : Nat} {d : D}, Reps K C p0 H G ds vs fp → fp.Nodup → ds[j]? = some d →
    ∃ v f, vs[j]? = some v ∧ Rep K C p0 H G d v f ∧ (∀ a ∈ f, a ∈ fp) ∧ f.Nodup ∧
      (∀ (q : Addr) (zs ys : List V) (d' : D) (f' : List Addr), q ∈ f → H q = some (.lst zs) → ¬ G q → Rep K C p0 (upd H q (.lst ys)) G d' v f' → f'.Nodup → (∀ a ∈ f', a ∈ f ∨ a ∉ fp) →
        ∃ fq, Reps K C p0 (upd H q (.lst ys)) G (ds.set j d') vs fq ∧ fq.Nodup ∧ ∀ a ∈ fq, a ∈ f' ∨ (a ∈ fp ∧ a ∉ f)) ∧
      (∀ (d' : D) (v' : V) (f' : List Addr), Rep K C p0 H G d' v' f' → f'.Nodup → (∀ a ∈ f', a ∉ fp) →
        ∃ fq, Reps K C p0 H G (ds.set j d') (vs.set j v') fq ∧ fq.Nodup ∧ ∀ a ∈ fq, a ∈ f' ∨ (a ∈ fp ∧ a ∉ f)) ∧
      (∃ fq, Reps K C p0 H G (ds.eraseIdx j) (vs.eraseIdx j) fq ∧ fq.Nodup ∧ ∀ a ∈ fq, a ∈ fp ∧ a ∉ f)
  | [], _, _, _, _, _, _, e => by simp at e
  | d :: ds, _, _, 0, x, r, n, e => by
    obtain ⟨v, r', f, g, rfl, rfl, a, b⟩ := Reps.cons_iff.mp r
    have e' : d = x := by simpa using e
    subst e'
    obtain ⟨n1, n2, n3⟩ := nodup_app.mp n
    refine ⟨v, f, rfl, a, fun x hx => List.mem_append_left _ hx, n1, fun q zs ys d' f' hq hz hg hr hn ha => ?_, fun d' v' f' hr hn ha => ?_, ⟨g, b, n2, fun x hx => ⟨List.mem_append_right _ hx, fun z => n3 x z hx⟩⟩⟩
    · refine ⟨f' ++ g, Reps.cons hr (Reps.wrt hz hg b (n3 q hq)), nodup_app.mpr ⟨hn, n2, fun x hx hy => ?_⟩, fun x hx => ?_⟩
      · rcases ha x hx with h | h
        · exact n3 x h hy
        · exact h (List.mem_append_right _ hy)
      · rcases List.mem_append.mp hx with h | h
        · exact .inl h
        · exact .inr ⟨List.mem_append_right _ h, fun z => n3 x z h⟩
    · refine ⟨f' ++ g, Reps.cons hr b, nodup_app.mpr ⟨hn, n2, fun x hx hy => ha x hx (List.mem_append_right _ hy)⟩, fun x hx => ?_⟩
      rcases List.mem_append.mp hx with h | h
      · exact .inl h
      · exact .inr ⟨List.mem_append_right _ h, fun z => n3 x z h⟩
  | d :: ds, _, _, j + 1, x, r, n, e => by
    obtain ⟨v, r', f, g, rfl, rfl, a, b⟩ := Reps.cons_iff.mp r
    obtain ⟨n1, n2, n3⟩ := nodup_app.mp n
    obtain ⟨w, fw, e1, e2, e3, e4, h1, h2, h3⟩ := Reps.repl (j := j) b n2 (by simpa using e)
    refine ⟨w, fw, by simpa using e1, e2, fun x hx => List.mem_append_right _ (e3 x hx), e4, fun q zs ys d' f' hq hz hg hr hn ha => ?_, fun d' v' f' hr hn ha => ?_, ?_⟩
    · obtain ⟨fq, q1, q2, q3⟩ := h1 q zs ys d' f' hq hz hg hr hn fun x hx => (ha x hx).imp id fun z y => z (List.mem_append_right _ y)
      refine ⟨f ++ fq, Reps.cons (Rep.wrt hz hg a fun z => n3 q z (e3 q hq)) q1, nodup_app.mpr ⟨n1, q2, fun x hx hy => ?_⟩, fun x hx => ?_⟩
      · rcases q3 x hy with h | h
        · rcases ha x h with k | k
          · exact n3 x hx (e3 x k)
          · exact k (List.mem_append_left _ hx)
        · exact n3 x hx h.1
      · rcases List.mem_append.mp hx with h | h
        · exact .inr ⟨List.mem_append_left _ h, fun z => n3 x h (e3 x z)⟩
        · exact (q3 x h).imp id fun z => ⟨List.mem_append_right _ z.1, z.2⟩
    · obtain ⟨fq, q1, q2, q3⟩ := h2 d' v' f' hr hn fun x hx y => ha x hx (List.mem_append_right _ y)
      refine ⟨f ++ fq, Reps.cons a q1, nodup_app.mpr ⟨n1, q2, fun x hx hy => ?_⟩, fun x hx => ?_⟩
      · rcases q3 x hy with h | h
        · exact ha x h (List.mem_append_left _ hx)
        · exact n3 x hx h.1
      · rcases List.mem_append.mp hx with h | h
        · exact .inr ⟨List.mem_append_left _ h, fun z => n3 x h (e3 x z)⟩
        · exact (q3 x h).imp id fun z => ⟨List.mem_append_right _ z.1, z.2⟩
    · obtain ⟨fq, q1, q2, q3⟩ := h3
      refine ⟨f ++ fq, Reps.cons a q1, nodup_app.mpr ⟨n1, q2, fun x hx hy => n3 x hx (q3 x hy).1⟩, fun x hx => ?_⟩
      rcases List.mem_append.mp hx with h | h
      · exact ⟨List.mem_append_left _ h, fun z => n3 x h (e3 x z)⟩
      · exact ⟨List.mem_append_right _ (q3 x h).1, (q3 x h).2⟩

/-! ### environments -/
theorem RepE.nil_iff {σ : List (Option V)} {fp : List Addr} : RepE K C p0 H G [] σ fp ↔ σ = [] ∧ fp = [] := by rw [RepE]
theorem RepE.none_iff {env : En} {σ : List (Option V)} {fp : List Addr} : RepE K C p0 H G (none :: env) σ fp ↔ ∃ x r, σ = x :: r ∧ RepE K C p0 H G env r fp := by
  rw [RepE]
theorem RepE.some_iff {d : D} {env : En} {σ : List (Option V)} {fp : List Addr} : RepE K C p0 H G (some d :: env) σ fp ↔ ∃ v r f g, σ = some v :: r ∧ fp = f ++ g ∧ Rep K C p0 H G d v f ∧ RepE K C p0 H G env r g := by
  rw [RepE]
theorem RepE.length : ∀ {env : En} {σ : List (Option V)} {fp : List Addr}, RepE K C p0 H G env σ fp → env.length = σ.length
  | [], _, _, r => by rw [(RepE.nil_iff.mp r).1] <;> rfl
  | none :: env, _, _, r => by
    obtain ⟨x, r', rfl, a⟩ := RepE.none_iff.mp r
    rw [List.length_cons, List.length_cons, RepE.length a]
  | some d :: env, _, _, r => by
    obtain ⟨v, r', f, g, rfl, _, _, a⟩ := RepE.some_iff.mp r
    rw [List.length_cons, List.length_cons, RepE.length a]
theorem RepE.grow (h : PL p0 H) (g : Grow p0 H G H' G') : ∀ {env : En} {σ : List (Option V)} {fp : List Addr}, RepE K C p0 H G env σ fp → RepE K C p0 H' G' env σ fp
  | [], _, _, r => by
    obtain ⟨rfl, rfl⟩ := RepE.nil_iff.mp r
    exact RepE.nil_iff.mpr ⟨rfl, rfl⟩
  | none :: env, _, _, r => by
    obtain ⟨x, r', rfl, a⟩ := RepE.none_iff.mp r
    exact RepE.none_iff.mpr ⟨x, r', rfl, RepE.grow h g a⟩
  | some d :: env, _, _, r => by
    obtain ⟨v, r', f, g', rfl, rfl, a, b⟩ := RepE.some_iff.mp r
    exact RepE.some_iff.mpr ⟨v, r', f, g', rfl, rfl, a.grow h g, RepE.grow h g b⟩
theorem RepE.mem : ∀ {env : En} {σ : List (Option V)} {fp : List Addr}, RepE K C p0 H G env σ fp → ∀ a ∈ fp, ¬ G a ∧ some a ≠ p0 ∧ ∃ xs, H a = some (.lst xs)
  | [], _, _, r => by
    obtain ⟨rfl, rfl⟩ := RepE.nil_iff.mp r
    simp
  | none :: env, _, _, r => by
    obtain ⟨x, r', rfl, a⟩ := RepE.none_iff.mp r
    exact RepE.mem a
  | some d :: env, _, _, r => by
    obtain ⟨v, r', f, g', rfl, rfl, a, b⟩ := RepE.some_iff.mp r
    intro x hx
    rcases List.mem_append.mp hx with hx | hx
    · exact a.mem x hx
    · exact RepE.mem b x hx
mutual
/-- more is frozen, nothing of this -/
theorem Rep.more {G1 : GS} (h1 : ∀ p, G p → G1 p) : ∀ {d : D} {v : V} {fp : List Addr}, (∀ a ∈ fp, ¬ G1 a) → Rep K C p0 H G d v fp → Rep K C p0 H G1 d v fp
  | .non, _, _, _, r => by unfold Rep at r ⊢; exact r
  | .bl _, _, _, _, r => by unfold Rep at r ⊢; exact r
  | .int _, _, _, _, r => by unfold Rep at r ⊢; exact r
  | .str _, _, _, _, r => by unfold Rep at r ⊢; exact r
  | .rat q, _, _, _, r => by unfold Rep at r ⊢; exact r
  | .tup ds, _, _, m, r => by
    unfold Rep at r ⊢
    obtain ⟨p, vs, e, q1, q2⟩ := r
    exact ⟨p, vs, e, q1, Reps.more h1 m q2⟩
  | .lst o ds, _, _, m, r => by
    unfold Rep at r ⊢
    obtain ⟨p, vs, f, e, q1, np, q2, q3⟩ := r
    rcases q3 with ⟨a, b, c⟩ | ⟨a, b, c⟩
    · rw [c] at m
      exact ⟨p, vs, f, e, q1, np, Reps.more h1 (fun x hx => m x (List.mem_cons_of_mem _ hx)) q2, .inl ⟨a, m p List.mem_cons_self, c⟩⟩
    · exact ⟨p, vs, f, e, q1, np, Reps.more h1 (by rw [c.1]; simp) q2, .inr ⟨a, h1 _ b, c⟩⟩
  | .strm, _, _, _, r => by unfold Rep at r ⊢; exact r
  | .scr ns, _, _, _, r => by unfold Rep at r ⊢; exact r
theorem Reps.more {G1 : GS} (h1 : ∀ p, G p → G1 p) : ∀ {ds : List D} {vs : List V} {fp : List Addr}, (∀ a ∈ fp, ¬ G1 a) → Reps K C p0 H G ds vs fp → Reps K C p0 H G1 ds vs fp
  | [], _, _, _, r => by unfold Reps at r ⊢; exact r
  | d :: ds, _, _, m, r => by
    unfold Reps at r ⊢
    obtain ⟨v, r', f, g', e1, e2, a, b⟩ := r
    rw [e2] at m
    exact ⟨v, r', f, g', e1, e2, Rep.more h1 (fun x hx => m x (List.mem_append_left _ hx)) a, Reps.more h1 (fun x hx => m x (List.mem_append_right _ hx)) b⟩
end
theorem RepE.more {G1 : GS} (h1 : ∀ p, G p → G1 p) : ∀ {env : En} {σ : List (Option V)} {fp : List Addr}, (∀ a ∈ fp, ¬ G1 a) → RepE K C p0 H G env σ fp → RepE K C p0 H G1 env σ fp
  | [], _, _, _, r => by
    obtain ⟨rfl, rfl⟩ := RepE.nil_iff.mp r
    exact RepE.nil_iff.mpr ⟨rfl, rfl⟩
  | none :: env, _, _, m, r => by
    obtain ⟨x, r', rfl, a⟩ := RepE.none_iff.mp r
    exact RepE.none_iff.mpr ⟨x, r', rfl, RepE.more h1 m a⟩
  | some d :: env, _, _, m, r => by
    obtain ⟨v, r', f, g', rfl, rfl, a, b⟩ := RepE.some_iff.mp r
    exact RepE.some_iff.mpr ⟨v, r', f, g', rfl, rfl, Rep.more h1 (fun x hx => m x (List.mem_append_left _ hx)) a, RepE.more h1 (fun x hx => m x (List.mem_append_right _ hx)) b⟩
theorem RepE.wrtAll {p : Addr} {ys zs : List V} (hp : H p = some (.lst zs)) (hG : ¬ G p) : ∀ {env : En} {σ : List (Option V)} {fp : List Addr}, RepE K C p0 H G env σ fp → p ∉ fp → RepE K C p0 (upd H p (.lst ys)) G env σ fp
  | [], _, _, r, _ => by
    obtain ⟨rfl, rfl⟩ := RepE.nil_iff.mp r
    exact RepE.nil_iff.mpr ⟨rfl, rfl⟩
  | none :: env, _, _, r, m => by
    obtain ⟨x, r', rfl, a⟩ := RepE.none_iff.mp r
    exact RepE.none_iff.mpr ⟨x, r', rfl, RepE.wrtAll hp hG a m⟩
  | some d :: env, _, _, r, m => by
    obtain ⟨v, r', f, g', rfl, rfl, a, b⟩ := RepE.some_iff.mp r
    exact RepE.some_iff.mpr ⟨v, r', f, g', rfl, rfl, Rep.wrt hp hG a fun z => m (List.mem_append_left _ z), RepE.wrtAll hp hG b fun z => m (List.mem_append_right _ z)⟩
/-- a slot bound anew -/
theorem RepE.bind : ∀ {env : En} {σ : List (Option V)} {fp : List Addr} {i : Nat} {d : D} {v : V} {f : List Addr}, RepE K C p0 H G env σ fp → fp.Nodup → Rep K C p0 H G d v f → f.Nodup → (∀ a ∈ f, a ∉ fp) →
    ∃ fq, RepE K C p0 H G (env.set i (some d)) (σ.set i (some v)) fq ∧ fq.Nodup ∧ ∀ a ∈ fq, a ∈ f ∨ a ∈ fp
  | [], _, _, _, _, _, _, r, n, _, _, _ => by
    obtain ⟨rfl, rfl⟩ := RepE.nil_iff.mp r
    exact ⟨[], RepE.nil_iff.mpr ⟨by simp, rfl⟩, n, by simp⟩
  | none :: env, _, fp, 0, d, v, f, r, n, a, n2, m => by
    obtain ⟨x, r', rfl, b⟩ := RepE.none_iff.mp r
    exact ⟨f ++ fp, RepE.some_iff.mpr ⟨v, r', f, fp, rfl, rfl, a, b⟩, nodup_app.mpr ⟨n2, n, m⟩, fun x hx => List.mem_append.mp hx⟩
  | some d0 :: env, _, _, 0, d, v, f, r, n, a, n2, m => by
    obtain ⟨v0, r', f0, g, rfl, rfl, _, b⟩ := RepE.some_iff.mp r
    exact ⟨f ++ g, RepE.some_iff.mpr ⟨v, r', f, g, rfl, rfl, a, b⟩, nodup_app.mpr ⟨n2, (nodup_app.mp n).2.1, fun x hx hy => m x hx (List.mem_append_right _ hy)⟩, fun x hx => (List.mem_append.mp hx).imp id fun z => List.mem_append_right _ z⟩
  | none :: env, _, fp, i + 1, d, v, f, r, n, a, n2, m => by
    obtain ⟨x, r', rfl, b⟩ := RepE.none_iff.mp r
    obtain ⟨fq, q1, q2, q3⟩ := RepE.bind (i := i) b n a n2 m
    exact ⟨fq, RepE.none_iff.mpr ⟨x, _, rfl, q1⟩, q2, q3⟩
  | some d0 :: env, _, _, i + 1, d, v, f, r, n, a, n2, m => by
    obtain ⟨v0, r', f0, g, rfl, rfl, a0, b⟩ := RepE.some_iff.mp r
    obtain ⟨n1, n3, n4⟩ := nodup_app.mp n
    obtain ⟨fq, q1, q2, q3⟩ := RepE.bind (i := i) b n3 a n2 fun x hx hy => m x hx (List.mem_append_right _ hy)
    refine ⟨f0 ++ fq, RepE.some_iff.mpr ⟨v0, _, f0, fq, rfl, rfl, a0, q1⟩, nodup_app.mpr ⟨n1, q2, fun x hx hy => ?_⟩, fun x hx => ?_⟩
    · rcases q3 x hy with h | h
      · exact m x h (List.mem_append_left _ hx)
      · exact n4 x hx h
    · rcases List.mem_append.mp hx with h | h
      · exact .inr (List.mem_append_left _ h)
      · exact (q3 x h).imp id fun z => List.mem_append_right _ z
theorem RepE.forget : ∀ {env : En} {σ : List (Option V)} {fp : List Addr} (i : Nat), RepE K C p0 H G env σ fp → fp.Nodup → ∃ fq, RepE K C p0 H G (env.set i none) σ fq ∧ RepE K C p0 H G (env.set i none) (σ.set i none) fq ∧ fq.Nodup ∧ ∀ a ∈ fq, a ∈ fp
  | [], _, _, _, r, n => by
    obtain ⟨rfl, rfl⟩ := RepE.nil_iff.mp r
    exact ⟨[], RepE.nil_iff.mpr ⟨rfl, rfl⟩, RepE.nil_iff.mpr ⟨rfl, rfl⟩, n, by simp⟩
  | none :: env, _, fp, 0, r, n => by
    obtain ⟨x, r', rfl, b⟩ := RepE.none_iff.mp r
    exact ⟨fp, r, RepE.none_iff.mpr ⟨none, r', rfl, b⟩, n, fun _ h => h⟩
  | some d0 :: env, _, _, 0, r, n => by
    obtain ⟨v0, r', f0, g, rfl, rfl, _, b⟩ := RepE.some_iff.mp r
    exact ⟨g, RepE.none_iff.mpr ⟨_, r', rfl, b⟩, RepE.none_iff.mpr ⟨_, r', rfl, b⟩, (nodup_app.mp n).2.1, fun x hx => List.mem_append_right _ hx⟩
  | none :: env, _, fp, i + 1, r, n => by
    obtain ⟨x, r', rfl, b⟩ := RepE.none_iff.mp r
    obtain ⟨fq, q1, q1', q2, q3⟩ := RepE.forget i b n
    exact ⟨fq, RepE.none_iff.mpr ⟨x, _, rfl, q1⟩, RepE.none_iff.mpr ⟨x, _, rfl, q1'⟩, q2, q3⟩
  | some d0 :: env, _, _, i + 1, r, n => by
    obtain ⟨v0, r', f0, g, rfl, rfl, a0, b⟩ := RepE.some_iff.mp r
    obtain ⟨n1, n3, n4⟩ := nodup_app.mp n
    obtain ⟨fq, q1, q1', q2, q3⟩ := RepE.forget i b n3
    exact ⟨f0 ++ fq, RepE.some_iff.mpr ⟨v0, _, f0, fq, rfl, rfl, a0, q1⟩, RepE.some_iff.mpr ⟨v0, _, f0, fq, rfl, rfl, a0, q1'⟩, nodup_app.mpr ⟨n1, q2, fun x hx hy => n4 x hx (q3 x hy)⟩, fun x hx => (List.mem_append.mp hx).elim (fun h => List.mem_append_left _ h) fun h => List.mem_append_right _ (q3 x h)⟩
/-- a slot: read; changed by a write at an address of its own; bound anew; forgotten -/
theorem RepE.repl : ∀ {env : En} {σ : List (Option V)} {fp : List Addr} {i : Nat} {d : D}, RepE K C p0 H G env σ fp → fp.Nodup → env[i]? = some (some d) →
    ∃ v f, σ[i]? = some (some v) ∧ Rep K C p0 H G d v f ∧ (∀ a ∈ f, a ∈ fp) ∧ f.Nodup ∧
      (∀ (q : Addr) (zs ys : List V) (d' : D) (f' : List Addr), q ∈ f → H q = some (.lst zs) → ¬ G q → Rep K C p0 (upd H q (.lst ys)) G d' v f' → f'.Nodup → (∀ a ∈ f', a ∈ f ∨ a ∉ fp) →
        ∃ fq, RepE K C p0 (upd H q (.lst ys)) G (env.set i (some d')) σ fq ∧ fq.Nodup ∧ ∀ a ∈ fq, a ∈ f' ∨ (a ∈ fp ∧ a ∉ f)) ∧
      (∀ (d' : D) (G1 : GS) (f' : List Addr), (∀ a, G a → G1 a) → (∀ a ∈ fp, a ∉ f → ¬ G1 a) → Rep K C p0 H G1 d' v f' → f'.Nodup → (∀ a ∈ f', a ∈ f) →
        ∃ fq, RepE K C p0 H G1 (env.set i (some d')) σ fq ∧ fq.Nodup ∧ ∀ a ∈ fq, a ∈ f' ∨ (a ∈ fp ∧ a ∉ f)) ∧
      (∃ fq, RepE K C p0 H G (env.set i none) σ fq ∧ fq.Nodup ∧ ∀ a ∈ fq, a ∈ fp ∧ a ∉ f)
  | [], _, _, _, _, _, _, e => by simp at e
  | none :: env, _, _, 0, _, _, _, e => by simp at e
  | none :: env, _, _, i + 1, d, r, n, e => by
    obtain ⟨x, r', rfl, a⟩ := RepE.none_iff.mp r
    obtain ⟨v, f, e1, e2, e3, e4, h1, h2, h3⟩ := RepE.repl (i := i) a n (by simpa using e)
    refine ⟨v, f, by simpa using e1, e2, e3, e4, fun q zs ys d' f' hq hz hg hr hn ha => ?_, fun d' G1 f' g1 g2 hr hn ha => ?_, ?_⟩
    · obtain ⟨fq, q1, q2, q3⟩ := h1 q zs ys d' f' hq hz hg hr hn ha
      exact ⟨fq, RepE.none_iff.mpr ⟨x, r', rfl, q1⟩, q2, q3⟩
    · obtain ⟨fq, q1, q2, q3⟩ := h2 d' G1 f' g1 g2 hr hn ha
      exact ⟨fq, RepE.none_iff.mpr ⟨x, r', rfl, q1⟩, q2, q3⟩
    · obtain ⟨fq, q1, q2, q3⟩ := h3
      exact ⟨fq, RepE.none_iff.mpr ⟨x, r', rfl, q1⟩, q2, q3⟩
  | some d :: env, _, _, 0, x, r, n, e => by
    obtain ⟨v, r', f, g, rfl, rfl, a, b⟩ := RepE.some_iff.mp r
    have e' : d = x := by simpa using e
    subst e'
    obtain ⟨n1, n2, n3⟩ := nodup_app.mp n
    refine ⟨v, f, rfl, a, fun x hx => List.mem_append_left _ hx, n1, fun q zs ys d' f' hq hz hg hr hn ha => ?_, fun d' G1 f' g1 g2 hr hn ha => ?_, ⟨g, RepE.none_iff.mpr ⟨_, r', rfl, b⟩, n2, fun x hx => ⟨List.mem_append_right _ hx, fun z => n3 x z hx⟩⟩⟩
    · refine ⟨f' ++ g, RepE.some_iff.mpr ⟨v, r', f', g, rfl, rfl, hr, ?_⟩, nodup_app.mpr ⟨hn, n2, fun x hx hy => ?_⟩, fun x hx => ?_⟩
      · exact RepE.wrtAll hz hg b (n3 q hq)
      · rcases ha x hx with h | h
        · exact n3 x h hy
        · exact h (List.mem_append_right _ hy)
      · rcases List.mem_append.mp hx with h | h
        · exact .inl h
        · exact .inr ⟨List.mem_append_right _ h, fun z => n3 x z h⟩
    · refine ⟨f' ++ g, RepE.some_iff.mpr ⟨v, r', f', g, rfl, rfl, hr, RepE.more g1 (fun x hx => g2 x (List.mem_append_right _ hx) fun z => n3 x z hx) b⟩, nodup_app.mpr ⟨hn, n2, fun x hx hy => n3 x (ha x hx) hy⟩, fun x hx => ?_⟩
      rcases List.mem_append.mp hx with h | h
      · exact .inl h
      · exact .inr ⟨List.mem_append_right _ h, fun z => n3 x z h⟩
  | some d :: env, _, _, i + 1, x, r, n, e => by
    obtain ⟨v, r', f, g, rfl, rfl, a, b⟩ := RepE.some_iff.mp r
    obtain ⟨n1, n2, n3⟩ := nodup_app.mp n
    obtain ⟨w, fw, e1, e2, e3, e4, h1, h2, h3⟩ := RepE.repl (i := i) b n2 (by simpa using e)
    refine ⟨w, fw, by simpa using e1, e2, fun x hx => List.mem_append_right _ (e3 x hx), e4, fun q zs ys d' f' hq hz hg hr hn ha => ?_, fun d' G1 f' g1 g2 hr hn ha => ?_, ?_⟩
    · obtain ⟨fq, q1, q2, q3⟩ := h1 q zs ys d' f' hq hz hg hr hn fun x hx => (ha x hx).imp id fun z y => z (List.mem_append_right _ y)
      refine ⟨f ++ fq, RepE.some_iff.mpr ⟨v, r', f, fq, rfl, rfl, Rep.wrt hz hg a fun z => n3 q z (e3 q hq), q1⟩, nodup_app.mpr ⟨n1, q2, fun x hx hy => ?_⟩, fun x hx => ?_⟩
      · rcases q3 x hy with h | h
        · rcases ha x h with k | k
          · exact n3 x hx (e3 x k)
          · exact k (List.mem_append_left _ hx)
        · exact n3 x hx h.1
      · rcases List.mem_append.mp hx with h | h
        · exact .inr ⟨List.mem_append_left _ h, fun z => n3 x h (e3 x z)⟩
        · exact (q3 x h).imp id fun z => ⟨List.mem_append_right _ z.1, z.2⟩
    · obtain ⟨fq, q1, q2, q3⟩ := h2 d' G1 f' g1 (fun x hx hy => g2 x (List.mem_append_right _ hx) hy) hr hn ha
      refine ⟨f ++ fq, RepE.some_iff.mpr ⟨v, r', f, fq, rfl, rfl, Rep.more g1 (fun x hx => g2 x (List.mem_append_left _ hx) fun z => n3 x hx (e3 x z)) a, q1⟩, nodup_app.mpr ⟨n1, q2, fun x hx hy => ?_⟩, fun x hx => ?_⟩
      · rcases q3 x hy with h | h
        · exact n3 x hx (e3 x (ha x h))
        · exact n3 x hx h.1
      · rcases List.mem_append.mp hx with h | h
        · exact .inr ⟨List.mem_append_left _ h, fun z => n3 x h (e3 x z)⟩
        · exact (q3 x h).imp id fun z => ⟨List.mem_append_right _ z.1, z.2⟩
    · obtain ⟨fq, q1, q2, q3⟩ := h3
      refine ⟨f ++ fq, RepE.some_iff.mpr ⟨v, r', f, fq, rfl, rfl, a, q1⟩, nodup_app.mpr ⟨n1, q2, fun x hx hy => n3 x hx (q3 x hy).1⟩, fun x hx => ?_⟩
      rcases List.mem_append.mp hx with h | h
      · exact ⟨List.mem_append_left _ h, fun z => n3 x h (e3 x z)⟩
      · exact ⟨List.mem_append_right _ (q3 x h).1, (q3 x h).2⟩
end
end Mp

namespace Mp
open PySem PySem.Spec
open PyProof.Rows L2
/-! ### the world -/
/-- all that was tracked stands -/
def Ex (H H' : Hp) : Prop := ∀ p o, H p = some o → H' p = some o
def RatAt (C : Addr) (H : Hp) (p : Addr) (q : Rat) : Prop := ∃ dx fs, H p = some (.ins C dx fs) ∧ Flds fs q
/-- two fractions in, one out -/
def rRat (C : Addr) (f : Rat → Rat → Rat) : R2 := fun x y H Q => ∃ p q a b, x = .ref p ∧ y = .ref q ∧ RatAt C H p a ∧ RatAt C H q b ∧ Sm a ∧ Sm b ∧ ∀ r H', Ex H H' → RatAt C H' r (f a b) → Q (.ref r) H'
/-- == of what lies as trees -/
def rEqv (K : PySem.W.Frag) (C : Addr) (neg : Bool) : R2 := fun x y H Q => ∃ p0 G a b fa fb r, PL p0 H ∧ Rep K C p0 H G a x fa ∧ Rep K C p0 H G b y fb ∧ canC neg a b = true ∧ D.eqv a b = some r ∧ ∀ H', Ex H H' → Q (.bl (if neg then !r else r)) H'
/-- the room that a def at depth k may use -/
def BASE : Nat := 12
def spEv (K : PySem.W.Frag) (C : Addr) (Γ : String → Option MDef) (k : Nat) (f : String) (np : Nat) : Sp := fun vs H Q _ => vs.length = np ∧
  ∃ (p0 : Option Addr) (s : Strm) (G : GS) (ds : List D), StAt p0 H G s ∧ (∀ p, G p → some p ≠ p0 ∧ ∃ o, H p = some o) ∧ Reps K C p0 H G ds vs [] ∧
    W (callF Γ k f ds) s fun d s' => ∀ H' G' v fp, Grow p0 H G H' G' → StAt p0 H' G' s' → (∀ p, G' p → some p ≠ p0 ∧ ∃ o, H' p = some o) → Rep K C p0 H' G' d v fp → fp.Nodup → (∀ a ∈ fp, H a = none) → Q v H'
def blt : List Str := ["len", "abs", "int", "list", "tuple", "isinstance", "any", "all", "sum", "max", "min", "range", "enumerate", "zip", "repr", "str", "bool"]
/-- Ratio(..): the reading by values -/
def rMk (C : Addr) : List V → Hp → VK → Prop := fun vs H Q => ∃ ds d, (ds = [d] ∧ vs = [.int d] ∧ ∀ r H', Ex H H' → RatAt C H' r d → Q (.ref r) H') ∨
  ∃ e, vs = [.int d, .int e] ∧ e ≠ 0 ∧ (e.natAbs.log2 < 9000 ∨ d = 1) ∧ ∀ r H', Ex H H' → RatAt C H' r (Rat.divInt d e) → Q (.ref r) H'
/-- x in a list or tuple -/
def rInv (K : PySem.W.Frag) (C : Addr) (neg : Bool) : R2 := fun x y H Q => ∃ p0 G a ds fa fb r, PL p0 H ∧ Rep K C p0 H G a x fa ∧ (Rep K C p0 H G (.tup ds) y fb ∨ ∃ o, Rep K C p0 H G (.lst o ds) y fb) ∧ canIn a ds = true ∧ anyEq a ds = some r ∧ ∀ H', Ex H H' → Q (.bl (if neg then !r else r)) H'
structure IsX (P : Program) (w : World) (K : PySem.W.Frag) (mg : Str → Option Value) (base : Heap) (X : Cx) : Prop where
  prog : X.prog = P
  w : X.w = w
  K : X.K = K
  mg : X.mg = mg
  base : X.base = base
structure Wd (P : Program) (w : World) (K : PySem.W.Frag) (mg : Str → Option Value) (base : Heap) (C : Addr) (Γ : String → Option MDef) (Gs : String → Option Int) (k : Nat) : Prop where
  free : ∀ x ∈ blt, mg x = none
  gl : ∀ x i, Gs x = some i → ∃ t, mg (Str.ofString x) = some (.int i t)
  gR : mg "Ratio" = some (.ref C)
  cls : Cls K C
  ntop : NoAttr K C "top"
  nbot : NoAttr K C "bottom"
  isT : ∀ T ∈ ["NoneType", "bool", "int", "str", "list", "tuple"], PySem.W.kitOne K (.type T) (.ref C) = some false
  isC : PySem.W.kitOne K (.ref C) (.ref C) = some true
  isB : ∀ T ∈ ["bool", "int", "str", "list", "tuple"], PySem.W.kitOne K (.ref C) (.type T) = some false
  isO : PySem.W.findIn K (.ref C) "__class__" = some (some (.builtin "object.__class__")) ∧ PySem.W.specialIn K (.builtin "object.__class__") "__get__" = some (some (.builtin "getset_descriptor.__get__")) ∧ PySem.W.takesIn K (.builtin "object.__class__") = some true ∧ PySem.W.mroIn K C (.type "object") = some true
  add : ∀ X, IsX P w K mg base X → Room BASE X.A → OpR X (binaryOp .Add) (rRat C fun a b => a + b)
  sub : ∀ X, IsX P w K mg base X → Room BASE X.A → OpR X (binaryOp .Sub) (rRat C fun a b => a - b)
  mul : ∀ X, IsX P w K mg base X → Room BASE X.A → OpR X (binaryOp .Mult) (rRat C fun a b => a * b)
  neg : ∀ X, IsX P w K mg base X → Room BASE X.A → UnR X (unaryOp .USub) fun x H Q => ∃ p a, x = .ref p ∧ RatAt C H p a ∧ Sm a ∧ ∀ r H', Ex H H' → RatAt C H' r (-a) → Q (.ref r) H'
  eq : ∀ X, IsX P w K mg base X → Room BASE X.A → OpR X (compareOp .Eq) (rEqv K C false)
  ne : ∀ X, IsX P w K mg base X → Room BASE X.A → OpR X (compareOp .NotEq) (rEqv K C true)
  inn : ∀ X, IsX P w K mg base X → Room BASE X.A → OpR X (compareOp .In) (rInv K C false)
  nin : ∀ X, IsX P w K mg base X → Room BASE X.A → OpR X (compareOp .NotIn) (rInv K C true)
  mkR : ∀ X, IsX P w K mg base X → Room BASE X.A → ∀ (e : Expr) (es : List Expr) (t : TA) (p pos : Pos), PA X (e :: es) t → Gl X "Ratio" → starEach (e :: es) X.env = (false, eval e X.env) :: starEach es X.env → (backTo pos (starEach es X.env)).any (·.1) = false →
    PE X (.Call (.Name "Ratio" p) (e :: es) [] pos) (fun σ H Q => t σ H fun vs H1 => rMk C vs H1 Q)
  fn : ∀ f md, Γ f = some md → ∃ fa fd ps, FnOk P w K mg base CX0 (BASE + k) fa fd ps (spEv K C Γ k f md.np) ∧ mg (Str.ofString f) = some (.ref fa) ∧ PySem.W.keepIn K (.ref fa) = true ∧ Binds K fd ps []
section
variable (C : Addr) (Γ : String → Option MDef) (Gs : String → Option Int)
structure Gd (k : Nat) (X : Cx) : Prop where
  wd : Wd X.prog X.w X.K X.mg X.base C Γ Gs k
  calm : X.calm = true
  po : PassesOwn (model X.prog X.w) X.A X.env X.xe
  nd : X.N.Nodup
  room : Room (BASE + k) X.A
theorem Gd.isX {k : Nat} {X : Cx} (_ : Gd C Γ Gs k X) : IsX X.prog X.w X.K X.mg X.base X := ⟨rfl, rfl, rfl, rfl, rfl⟩
theorem Gd.r {k : Nat} {X : Cx} (g : Gd C Γ Gs k X) : Room BASE X.A := g.room.mono (Nat.le_add_right _ _)
/-! ### what is shown of an expression -/
def strict (p : Md) (m : ME) : Bool := p == .v || !isPath m
def Post (X : Cx) (p0 : Option Addr) (st : Bool) (H0 : Hp) (G0 : GS) (H : Hp) (G : GS) (env : En) (σ : L2.St) (Q : VK) (d : D) (s' : Strm) : Prop :=
  ∀ H' G' v fp, Grow p0 H G H' G' → StX X.K C p0 H0 G0 H' G' s' env σ → Rep X.K C p0 H' G' d v fp → (st = true → fp.Nodup ∧ ∀ a ∈ fp, H a = none) → Q v H'
def SE (k : Nat) (X : Cx) (p : Md) (m : ME) (e : Expr) : Prop := ∃ t, PE X e t ∧ ∀ (p0 : Option Addr) (H0 : Hp) (G0 : GS) (H : Hp) (G : GS) (s : Strm) (env : En) (σ : L2.St) (Q : VK), StX X.K C p0 H0 G0 H G s env σ →
  W (ev (callF Γ k) env p m) s (Post C X p0 (strict p m) H0 G0 H G env σ Q) → t σ H Q
def ST (k : Nat) (X : Cx) (m : ME) (e : Expr) : Prop := ∃ t, PT X e t ∧ ∀ (p0 : Option Addr) (H0 : Hp) (G0 : GS) (H : Hp) (G : GS) (s : Strm) (env : En) (σ : L2.St) (Q : Bool → Hp → Prop), StX X.K C p0 H0 G0 H G s env σ →
  W (tru (ev (callF Γ k) env .t m)) s (fun b s' => ∀ H' G', Grow p0 H G H' G' → StX X.K C p0 H0 G0 H' G' s' env σ → Q b H') → t σ H Q
def SW (k : Nat) (X : Cx) (m : ME) (e : Expr) : Prop := ∃ t, PW X e t ∧ ∀ (p0 : Option Addr) (H0 : Hp) (G0 : GS) (H : Hp) (G : GS) (s : Strm) (env : En) (σ : L2.St) (Q : Bool → Hp → Prop), StX X.K C p0 H0 G0 H G s env σ →
  W (tru (ev (callF Γ k) env .t m)) s (fun b s' => ∀ H' G', Grow p0 H G H' G' → StX X.K C p0 H0 G0 H' G' s' env σ → Q b H') → t σ H Q
theorem SW.st {k : Nat} {X : Cx} {m : ME} {e : Expr} (h : SW C Γ k X m e) : ST C Γ k X m e := let ⟨t, a, b⟩ := h; ⟨t, a.pt, b⟩
def PostL (X : Cx) (p0 : Option Addr) (st : Bool) (H0 : Hp) (G0 : GS) (H : Hp) (G : GS) (env : En) (σ : L2.St) (Q : List V → Hp → Prop) (ds : List D) (s' : Strm) : Prop :=
  ∀ H' G' vs fp, Grow p0 H G H' G' → StX X.K C p0 H0 G0 H' G' s' env σ → Reps X.K C p0 H' G' ds vs fp → (st = true → fp.Nodup ∧ ∀ a ∈ fp, H a = none) → Q vs H'
def SA (k : Nat) (X : Cx) (st : Bool) (m : En → M (List D)) (es : List Expr) : Prop := ∃ t, PA X es t ∧ ∀ (p0 : Option Addr) (H0 : Hp) (G0 : GS) (H : Hp) (G : GS) (s : Strm) (env : En) (σ : L2.St) (Q : List V → Hp → Prop), StX X.K C p0 H0 G0 H G s env σ →
  W (m env) s (PostL C X p0 st H0 G0 H G env σ Q) → t σ H Q
end
section
variable {K : PySem.W.Frag} {C : Addr} {p0 : Option Addr} {H H' H0 : Hp} {G G' G0 : GS} {s s' : Strm} {env : En} {σ : L2.St}
theorem StX.pl (x : StX K C p0 H0 G0 H G s env σ) : PL p0 H := x.strm.pl
/-- the state behind what only makes things -/
theorem StX.ex (x : StX K C p0 H0 G0 H G s env σ) (e : Ex H H') (hg : Grow p0 H G H' G') (hn : ∀ p, G' p → G p ∨ (some p ≠ p0 ∧ ∃ o, H' p = some o)) : StX K C p0 H0 G0 H' G' s env σ := by
  refine ⟨x.grow.trans hg, fun p hp => ?_, fun p hp => ?_, ?_⟩
  · obtain ⟨pc, a, b, c, d, f⟩ := x.strm p hp
    exact ⟨pc, e _ _ a, e _ _ b, c, hg.gs _ d, f⟩
  · rcases hn p hp with h | h
    · obtain ⟨a, o, b⟩ := x.gs p h
      exact ⟨a, o, e _ _ b⟩
    · exact h
  · obtain ⟨fp, a, b, c⟩ := x.env
    exact ⟨fp, a.grow x.pl hg, b, c⟩
theorem grow_ex (e : Ex H H') : Grow p0 H G H' G := ⟨fun p o _ h => e p o h, fun _ h => h, fun _ _ _ h _ => h, fun _ _ xs _ h => ⟨xs, e _ _ h⟩⟩
theorem StX.ex' (x : StX K C p0 H0 G0 H G s env σ) (e : Ex H H') : StX K C p0 H0 G0 H' G s env σ := x.ex e (grow_ex e) fun _ h => .inl h
theorem ex_upd {p : Addr} {o : HO} (h : H p = none) : Ex H (upd H p o) := fun a u e => by rw [upd_ne (ne_of_none e h)]; exact e
theorem ne_p0 (x : PL p0 H) {p : Addr} (h : H p = none) : some p ≠ p0 := fun z => by
  obtain ⟨xs, q⟩ := x p z.symm
  rw [h] at q
  cases q
theorem rat_rep {q : Rat} {r : Addr} (h : RatAt C H r q) : Rep K C p0 H G (.rat q) (.ref r) [] := by
  obtain ⟨dx, fs, a, b⟩ := h
  rw [Rep]
  exact ⟨⟨r, dx, fs, rfl, a, b⟩, rfl⟩
theorem rat_of {q : Rat} {v : V} {fp : List Addr} (h : Rep K C p0 H G (.rat q) v fp) : ∃ p, v = .ref p ∧ RatAt C H p q := by
  rw [Rep] at h
  obtain ⟨⟨p, dx, fs, e, a, b⟩, _⟩ := h
  exact ⟨p, e, dx, fs, a, b⟩
theorem int_rep {i : Int} : Rep K C p0 H G (.int i) (.int i) [] := by rw [Rep]; exact ⟨rfl, rfl⟩
theorem bl_rep {b : Bool} : Rep K C p0 H G (.bl b) (.bl b) [] := by rw [Rep]; exact ⟨rfl, rfl⟩
theorem non_rep : Rep K C p0 H G .non .non [] := by rw [Rep]; exact ⟨rfl, rfl⟩
theorem str_rep {x : Str} : Rep K C p0 H G (.str x) (.str x) [] := by rw [Rep]; exact ⟨rfl, rfl⟩
theorem int_of {i : Int} {v : V} {fp : List Addr} (h : Rep K C p0 H G (.int i) v fp) : v = .int i := by rw [Rep] at h; exact h.1
theorem bl_of {b : Bool} {v : V} {fp : List Addr} (h : Rep K C p0 H G (.bl b) v fp) : v = .bl b := by rw [Rep] at h; exact h.1
theorem non_of {v : V} {fp : List Addr} (h : Rep K C p0 H G .non v fp) : v = .non := by rw [Rep] at h; exact h.1
theorem str_of {x : Str} {v : V} {fp : List Addr} (h : Rep K C p0 H G (.str x) v fp) : v = .str x := by rw [Rep] at h; exact h.1
theorem tup_of {ds : List D} {v : V} {fp : List Addr} (h : Rep K C p0 H G (.tup ds) v fp) : ∃ p vs, v = .ref p ∧ H p = some (.tup vs) ∧ Reps K C p0 H G ds vs fp := by rw [Rep] at h; exact h
theorem lst_of {o : Bool} {ds : List D} {v : V} {fp : List Addr} (h : Rep K C p0 H G (.lst o ds) v fp) : ∃ p vs f, v = .ref p ∧ H p = some (.lst vs) ∧ some p ≠ p0 ∧ Reps K C p0 H G ds vs f ∧ (fp = p :: f ∨ f = []) := by
  rw [Rep] at h
  obtain ⟨p, vs, f, e, q1, np, q2, q3⟩ := h
  exact ⟨p, vs, f, e, q1, np, q2, q3.imp (fun z => z.2.2) fun z => z.2.2.1⟩
/-- a new tuple -/
theorem tup_new {ds : List D} {vs : List V} {fp : List Addr} {p : Addr} (r : Reps K C p0 H G ds vs fp) (pl : PL p0 H) (hp : H p = none) : Rep K C p0 (upd H p (.tup vs)) G (.tup ds) (.ref p) fp := by
  rw [Rep]
  exact ⟨p, vs, rfl, upd_same, r.grow pl (grow_ex (ex_upd hp))⟩
/-- a new list, its maker's own -/
theorem lst_new {ds : List D} {vs : List V} {fp : List Addr} {p : Addr} (r : Reps K C p0 H G ds vs fp) (pl : PL p0 H) (hp : H p = none) (gs : ∀ p, G p → some p ≠ p0 ∧ ∃ o, H p = some o) : Rep K C p0 (upd H p (.lst vs)) G (.lst true ds) (.ref p) (p :: fp) := by
  rw [Rep]
  refine ⟨p, vs, fp, rfl, upd_same, ne_p0 pl hp, r.grow pl (grow_ex (ex_upd hp)), .inl ⟨rfl, fun z => ?_, rfl⟩⟩
  obtain ⟨_, o, q⟩ := gs p z
  rw [hp] at q
  cases q
theorem fp_new {fp : List Addr} {p : Addr} {ds : List D} {vs : List V} (r : Reps K C p0 H G ds vs fp) (hp : H p = none) (n : fp.Nodup) : (p :: fp).Nodup := by
  refine List.nodup_cons.mpr ⟨fun z => ?_, n⟩
  obtain ⟨_, _, xs, q⟩ := r.mem p z
  rw [hp] at q
  cases q
theorem grow_none (g : Grow p0 H G H' G') (pl : PL p0 H') {p : Addr} (h : H' p = none) : H p = none := by
  cases q : H p with
  | none => rfl
  | some o =>
    rw [g.keep p o (ne_p0 pl h) q] at h
    cases h
end
end Mp

namespace Mp
open PySem PySem.Spec
open PyProof.Rows L2
section
variable {C : Addr} {Γ : String → Option MDef} {Gs : String → Option Int} {k : Nat} {X : Cx} {p0 : Option Addr} {H H1 H2 H' H0 : Hp} {G G1 G2 G' G0 : GS} {s s2 : Strm} {env : En} {σ : L2.St} {Q : VK} {d : D} {v : V} {fp : List Addr} {st : Bool}
theorem Post.fin (h : Post C X p0 st H0 G0 H G env σ Q d s2) (g : Grow p0 H G H2 G2) (x : StX X.K C p0 H0 G0 H2 G2 s2 env σ) (e : Ex H2 H') (r : Rep X.K C p0 H' G2 d v fp) (n : fp.Nodup) (fr : ∀ a ∈ fp, H a = none) : Q v H' :=
  h H' G2 v fp (g.trans (grow_ex e)) (x.ex' e) r fun _ => ⟨n, fr⟩
theorem Ex.rfl' : Ex H H := fun _ _ h => h
theorem Post.flat (h : Post C X p0 st H0 G0 H G env σ Q d s2) (g : Grow p0 H G H2 G2) (x : StX X.K C p0 H0 G0 H2 G2 s2 env σ) (r : Rep X.K C p0 H2 G2 d v []) : Q v H2 :=
  h.fin g x Ex.rfl' r .nil (by simp)
/-! ### constants, names -/
variable {p : Md} {pos : Pos} {j : Nat}
theorem se_int {i : Int} : SE C Γ k X p (.int i) (.Constant (.int i) j pos) := ⟨_, pe_int, fun p0 H0 G0 H G s env σ Q x h => (show Post _ _ _ _ _ _ _ _ _ _ _ _ _ from h).flat Grow.rfl' x int_rep⟩
theorem se_bl {b : Bool} : SE C Γ k X p (.bl b) (.Constant (.bool b) j pos) := ⟨_, pe_bl, fun p0 H0 G0 H G s env σ Q x h => (show Post _ _ _ _ _ _ _ _ _ _ _ _ _ from h).flat Grow.rfl' x bl_rep⟩
theorem se_non : SE C Γ k X p .non (.Constant .none j pos) := ⟨_, pe_non, fun p0 H0 G0 H G s env σ Q x h => (show Post _ _ _ _ _ _ _ _ _ _ _ _ _ from h).flat Grow.rfl' x non_rep⟩
theorem se_str {z : String} : SE C Γ k X p (.str z) (.Constant (.str (Str.ofString z)) j pos) := ⟨_, pe_str, fun p0 H0 G0 H G s env σ Q x h => (show Post _ _ _ _ _ _ _ _ _ _ _ _ _ from h).flat Grow.rfl' x str_rep⟩
theorem se_glob (g : Gd C Γ Gs k X) {z : String} {i : Int} (hz : Gs z = some i) (hg : Gl X (Str.ofString z)) (hd : (Str.ofString z == ("__debug__" : Str)) = false) : SE C Γ k X p (.glob z i) (.Name (Str.ofString z) pos) := by
  obtain ⟨t, ht⟩ := g.wd.gl z i hz
  exact ⟨_, pe_glob (v := .int i) hg ht ⟨t, rfl⟩ hd, fun p0 H0 G0 H G s env σ Q x h => (show Post _ _ _ _ _ _ _ _ _ _ _ _ _ from h).flat Grow.rfl' x int_rep⟩
theorem StX.look (x : StX X.K C p0 H0 G0 H G s env σ) {i : Nat} {d : D} (e : env[i]? = some (some d)) : ∃ v f, σ[i]? = some (some v) ∧ Rep X.K C p0 H G d v f ∧ f.Nodup := by
  obtain ⟨fp, a, n, b⟩ := x.env
  obtain ⟨v, f, e1, e2, _, e4, _⟩ := a.repl n e
  exact ⟨v, f, e1, e2, e4⟩
theorem se_var {i : Nat} {x : Str} (hN : X.N[i]? = some x) (hv : Vis X.env.scope x) (hd : (x == ("__debug__" : Str)) = false) (hcd : (x == ("__classdict__" : Str)) = false) : SE C Γ k X p (.var i) (.Name x pos) := by
  refine ⟨_, pe_var hN hv hd hcd, fun p0 H0 G0 H G s env σ Q x h => ?_⟩
  rw [ev] at h
  cases e : env[i]? with
  | none => rw [e] at h; exact h.elim
  | some o =>
    cases o with
    | none => rw [e] at h; exact h.elim
    | some d =>
      rw [e] at h
      obtain ⟨c, q⟩ := W_guard.mp (W_bind.mp h)
      obtain ⟨v, f, e1, r, n⟩ := x.look e
      refine ⟨v, e1, (show Post _ _ _ _ _ _ _ _ _ _ _ _ _ from q) H G v f Grow.rfl' x r fun z => ?_⟩
      have hp : p = .v := by
        cases p <;> first | rfl | (exfalso; revert z; simp [strict, isPath])
      have : f = [] := r.noOwn (c.resolve_left fun q => q hp)
      rw [this]
      exact ⟨.nil, by simp⟩
/-! ### operands -/
/-- the items of d may be handed on -/
def EF (K : PySem.W.Frag) (C : Addr) (p0 : Option Addr) (F : Addr → Prop) (H : Hp) (G : GS) (d : D) (v : V) : Prop :=
  (∀ ds, d = .tup ds → ∃ p vs f, v = .ref p ∧ H p = some (.tup vs) ∧ Reps K C p0 H G ds vs f ∧ f.Nodup ∧ ∀ a ∈ f, F a) ∧
  (∀ o ds, d = .lst o ds → ∃ p vs f, v = .ref p ∧ H p = some (.lst vs) ∧ some p ≠ p0 ∧ Reps K C p0 H G ds vs f ∧ f.Nodup ∧ ∀ a ∈ f, F a)
theorem EF.grow {K : PySem.W.Frag} {F F' : Addr → Prop} (e : EF K C p0 F H G d v) (pl : PL p0 H) (g : Grow p0 H G H' G') (hf : ∀ a xs, F a → H a = some (.lst xs) → F' a) : EF K C p0 F' H' G' d v := by
  refine ⟨fun ds hd => ?_, fun o ds hd => ?_⟩
  · obtain ⟨p, vs, f, a, b, c, n, q⟩ := e.1 ds hd
    refine ⟨p, vs, f, a, g.keep _ _ (pl.ne b fun _ z => by cases z) b, c.grow pl g, n, fun x hx => ?_⟩
    obtain ⟨_, _, xs, z⟩ := c.mem x hx
    exact hf x xs (q x hx) z
  · obtain ⟨p, vs, f, a, b, np, c, n, q⟩ := e.2 o ds hd
    refine ⟨p, vs, f, a, g.keep _ _ np b, np, c.grow pl g, n, fun x hx => ?_⟩
    obtain ⟨_, _, xs, z⟩ := c.mem x hx
    exact hf x xs (q x hx) z
def PostB (C : Addr) (X : Cx) (p0 : Option Addr) (H0 : Hp) (G0 : GS) (H : Hp) (G : GS) (env : En) (σ : L2.St) (Q : VK) (d : D) (s' : Strm) : Prop :=
  ∀ H' G' v fp, Grow p0 H G H' G' → StX X.K C p0 H0 G0 H' G' s' env σ → Rep X.K C p0 H' G' d v fp → EF X.K C p0 (fun a => H a = none) H' G' d v → Q v H'
def SB (C : Addr) (Γ : String → Option MDef) (k : Nat) (X : Cx) (m : ME) (e : Expr) : Prop := ∃ t, PE X e t ∧ ∀ (p0 : Option Addr) (H0 : Hp) (G0 : GS) (H : Hp) (G : GS) (s : Strm) (env : En) (σ : L2.St) (Q : VK), StX X.K C p0 H0 G0 H G s env σ →
  W (bw m (ev (callF Γ k) env .p m)) s (PostB C X p0 H0 G0 H G env σ Q) → t σ H Q
theorem SE.b {m : ME} {e : Expr} (h : SE C Γ k X .p m e) : SB C Γ k X m e := by
  obtain ⟨t, a, b⟩ := h
  refine ⟨t, a, fun p0 H0 G0 H G s env σ Q x h => b p0 H0 G0 H G s env σ Q x ?_⟩
  unfold bw at h
  refine W_mono (W_bind.mp h) fun d s' q H' G' v fp g x' r z => ?_
  obtain ⟨c, q⟩ := W_guard.mp (W_bind.mp q)
  refine (show PostB _ _ _ _ _ _ _ _ _ _ _ _ from q) H' G' v fp g x' r ⟨fun ds hd => ?_, fun o ds hd => ?_⟩
  · subst hd
    obtain ⟨p, vs, e1, e2, e3⟩ := tup_of r
    refine ⟨p, vs, fp, e1, e2, e3, ?_⟩
    rcases c with c | c
    · exact z (by simp [strict, c])
    · rw [e3.noOwn c]
      exact ⟨.nil, by simp⟩
  · subst hd
    obtain ⟨p, vs, f, e1, e2, e3, e4, e5⟩ := lst_of r
    refine ⟨p, vs, f, e1, e2, e3, e4, ?_⟩
    rcases c with c | c
    · have hz := z (by simp [strict, c])
      rcases e5 with e5 | e5
      · rw [e5] at hz
        exact ⟨(List.nodup_cons.mp hz.1).2, fun a ha => hz.2 a (List.mem_cons_of_mem _ ha)⟩
      · rw [e5]
        exact ⟨.nil, by simp⟩
    · rw [e4.noOwn c]
      exact ⟨.nil, by simp⟩
end
end Mp

namespace Mp
open PySem PySem.Spec
open PyProof.Rows L2
/-! ### a tuple times 1 is itself -/
theorem tuple_mul1 (l : Addr) (items : Array Value) (n : Nat) (dd : Option Addr) (sl : Array (Option Value)) (u : Tok) :
    Meets (Builtin.«tuple.__mul__» ⟨[.ref l, .int 1 u], []⟩) (fun _ R s => s.heap.get? l = some { cls := .type "tuple", dict := dd, data := .seq items n, slots := sl } ∧ R (.ok (.ret (Value.ref l))) s) :=
  .of_wp fun prog w A R s h => by
    obtain ⟨hp, g, d, tk, os⟩ := s
    obtain ⟨hl, h⟩ := h
    have f1 := AutoSeq1.idx_int
    wp_walk using wpAny_loadPart' hl
    repeat (first
      | (refine wpAny_ite_false (by decide) ?_; wp_walk using wpAny_loadPart' hl)
      | (refine wpAny_ite_true (by simp) ?_; wp_walk using wpAny_loadPart' hl))
    exact ⟨_, rfl, h⟩
def rRepT1 (K : PySem.W.Frag) : R2 := fun x y H Q => ∃ l xs, x = .ref l ∧ y = .int 1 ∧ SqT K H l xs ∧ Q (.ref l) H
theorem op_rep1 {X : Cx} : OpR X (binaryOp .Mult) (rRepT1 X.K) := by
  intro pins s σ H x y v u Q I rx ry h
  obtain ⟨l, xs, rfl, rfl, hT, q⟩ := h
  cases rx
  obtain ⟨t, rfl⟩ := ry
  obtain ⟨its, r, ⟨⟨cls, dd, data, sl⟩, ho, hc, n, hd⟩, hs⟩ := I.tuple hT
  simp only at hc hd
  subst hc hd
  exact wpAny_binaryOp_repeat_ref (T := "tuple") (U := "int") (by decide) ⟨_, ho, rfl⟩ (fun s' => typeIs_int s' 1 t) noFill_tuple_mul F.fills_int_mul F.slot_int_rmul repeat_tuple F.slot_int_index.lookup
    (call_meets F.slot_int_rmul (typeIs_int s 1 t) F.entry_int_rmul (F.args_int_rmul_2 _ _) (int_rmul_tuple 1 t l its.toArray n dd sl)
      ⟨ho, rfl, ⟨_, ho, rfl⟩, call_meets F.slot_tuple_mul ⟨_, ho, rfl⟩ F.entry_tuple_mul (F.args_tuple_mul_2 _ _) (tuple_mul1 l its.toArray n dd sl t) ⟨ho, ⟨.ref l, H, I, rfl, q⟩⟩⟩)
end Mp

namespace Mp
open PySem PySem.Spec
open PyProof.Rows L2
theorem lim_size {n : Nat} (h : n ≤ LIM) : n ≤ sizeLine := Nat.le_trans h (by rw [sizeLine_eq]; decide)
theorem lim_size' {n : Nat} (h : n < LIM) : n < sizeLine := Nat.lt_of_lt_of_le h (by rw [sizeLine_eq]; decide)
theorem OpR.or {X : Cx} {f : Value → Value → Sem Value} {r r' : R2} (h : OpR X f r) (h' : OpR X f r') : OpR X f (fun x y H Q => r x y H Q ∨ r' x y H Q) := by
  intro pins s σ H x y v u Q I rx ry q
  rcases q with q | q
  · exact h pins s σ H x y v u Q I rx ry q
  · exact h' pins s σ H x y v u Q I rx ry q
def opP : BOp → Operator
  | .add => .Add | .sub => .Sub | .mul => .Mult | .fdiv => .FloorDiv | .mod => .Mod | .pow => .Pow
theorem op_fdivM {X : Cx} : OpR X (binaryOp .FloorDiv) (rI (fun _ j => j ≠ 0 ∧ j.natAbs.log2 < 9000) fun i j => .int (i.fdiv j)) := opI fun _ _ _ _ _ _ _ hc q => floordiv_int hc.1 q (.inl (PyProof.noPylong_of_log2 hc.2))
theorem op_mulM {X : Cx} : OpR X (binaryOp .Mult) (rI mulOk fun i j => .int (i * j)) := opI fun i j _ _ _ _ _ hc q => mul_int q (CMulW.ok (i := i) (j := j) hc)
def rStr : R2 := fun x y H Q => ∃ i j, x = .str i ∧ y = .str j ∧ i.length + j.length ≤ sizeLine ∧ Q (.str (i ++ j)) H
def rRepS : R2 := fun x y H Q => ∃ w n, x = .str w ∧ y = .int n ∧ 0 ≤ n ∧ n ≤ 1000000 ∧ w.length * n.toNat ≤ sizeLine ∧ 0 < w.length ∧ Q (.str (repS w n.toNat)) H
theorem foldl_size : ∀ (n : Nat) (a acc : Array Nat), ((List.replicate n a).foldl (· ++ ·) acc).size = acc.size + n * a.size
  | 0, a, acc => by rw [Nat.zero_mul]; rfl
  | n + 1, a, acc => by
    rw [List.replicate_succ, List.foldl_cons, foldl_size n a, Array.size_append, Nat.succ_mul]
    omega
theorem op_mulS {X : Cx} : OpR X (binaryOp .Mult) rRepS := by
  intro pins s σ H x y v u Q I rx ry h
  obtain ⟨w, n, rfl, rfl, h0, h1, hz, hw, q⟩ := h
  obtain ⟨t, rfl⟩ := rx
  obtain ⟨t', rfl⟩ := ry
  have hz' := hz
  rw [sizeLine_eq] at hz'
  refine PySem.P.mul_str ?_ (fun a b => ?_) (fun a b => ?_) ?_
  · rw [decide_eq_false (by omega), decide_eq_false (by omega)]
    rfl
  · refine Int.not_lt.mpr (Int.le_ediv_of_mul_le (by omega) ?_)
    have : ((w.length * n.toNat : Nat) : Int) = (w.length : Int) * n := by rw [Int.natCast_mul, Int.toNat_of_nonneg h0]
    rw [← this]
    omega
  · exact decide_eq_false (Nat.not_lt.mpr hz)
  · by_cases c : n < 1
    · rw [if_pos c]
      have : n = 0 := by omega
      subst this
      exact ⟨by decide, .str (repS w 0), H, I.tok _, ⟨_, rfl⟩, q⟩
    · rw [if_neg c]
      by_cases c1 : n = 1
      · subst c1
        rw [if_pos (by rfl)]
        have e : repS w (Int.toNat 1) = w := by
          show (⟨#[] ++ w.cps⟩ : Str) = w
          rw [Array.empty_append]
        rw [e] at q
        exact ⟨.str w, H, I, ⟨t, rfl⟩, q⟩
      · rw [if_neg (by
          rw [Bool.or_eq_true, beq_iff_eq, beq_iff_eq]
          omega)]
        refine ⟨?_, .str (repS w n.toNat), H, I.tok _, ⟨_, rfl⟩, q⟩
        show ((List.replicate n.toNat w.cps).foldl (· ++ ·) #[]).size ≤ sizeLine
        rw [foldl_size, Nat.mul_comm]
        show 0 + w.length * n.toNat ≤ sizeLine
        rw [Nat.zero_add]
        exact hz
def rBin (K : PySem.W.Frag) (C : Addr) : BOp → R2
  | .add => fun x y H Q => rI0 (fun i j => .int (i + j)) x y H Q ∨ rRat C (fun a b => a + b) x y H Q ∨ rStr x y H Q ∨ rCatA K x y H Q ∨ rCat x y H Q
  | .sub => fun x y H Q => rI0 (fun i j => .int (i - j)) x y H Q ∨ rRat C (fun a b => a - b) x y H Q
  | .mul => fun x y H Q => rI mulOk (fun i j => .int (i * j)) x y H Q ∨ rRat C (fun a b => a * b) x y H Q ∨ rRep x y H Q ∨ rRepT K x y H Q ∨ rRepT1 K x y H Q ∨ rRepS x y H Q
  | .fdiv => rI (fun _ j => j ≠ 0 ∧ j.natAbs.log2 < 9000) fun i j => .int (i.fdiv j)
  | .mod => rI (fun _ j => j ≠ 0) fun i j => .int (i.fmod j)
  | .pow => rI CPow fun i j => .int (i ^ j.toNat)
section
variable {C : Addr} {Γ : String → Option MDef} {Gs : String → Option Int} {k : Nat} {X : Cx} {p0 : Option Addr} {H H1 H2 H' H0 : Hp} {G G1 G2 G' G0 : GS} {s s2 : Strm} {env : En} {σ : L2.St} {Q : VK} {d : D} {v : V} {fp : List Addr} {st : Bool}
variable {p : Md} {pos : Pos} {j : Nat}
theorem bin_op (g : Gd C Γ Gs k X) (op : BOp) : OpR X (binaryOp (opP op)) (rBin X.K C op) := by
  cases op with
  | add => exact OpR.or op_add (OpR.or (g.wd.add X g.isX g.r) (OpR.or op_add_str (OpR.or op_catA op_cat)))
  | sub => exact OpR.or op_sub (g.wd.sub X g.isX g.r)
  | mul => exact OpR.or op_mulM (OpR.or (g.wd.mul X g.isX g.r) (OpR.or op_rep (OpR.or op_repT (OpR.or op_rep1 op_mulS))))
  | fdiv => exact op_fdivM
  | mod => exact op_modN
  | pow => exact op_pow
theorem Reps.rep {K : PySem.W.Frag} {ds : List D} {vs : List V} (r : Reps K C p0 H G ds vs []) : ∀ n : Nat, Reps K C p0 H G (List.replicate n ds).flatten (List.replicate n vs).flatten []
  | 0 => Reps.nil
  | n + 1 => by
    rw [List.replicate_succ, List.replicate_succ, List.flatten_cons, List.flatten_cons]
    exact (Reps.append r (Reps.rep r n) : Reps K C p0 H G _ _ ([] ++ []))
theorem bin_sem (op : BOp) {dx dy : D} {x y : V} {fa fb : List Addr} (x2 : StX X.K C p0 H0 G0 H2 G2 s2 env σ) (g : Grow p0 H G H2 G2) (pl1 : PL p0 H2)
    (fr : ∀ a, H1 a = none → H a = none) (ra : Rep X.K C p0 H2 G2 dx x fa) (ea : EF X.K C p0 (fun a => H a = none ∧ H1 a ≠ none) H2 G2 dx x) (rb : Rep X.K C p0 H2 G2 dy y fb) (eb : EF X.K C p0 (fun a => H1 a = none) H2 G2 dy y)
    (h : W (binD op dx dy) s2 (Post C X p0 st H0 G0 H G env σ Q)) : rBin X.K C op x y H2 Q := by
  have pl2 := x2.pl
  have newT : ∀ {ds : List D} {vs : List V} {f : List Addr} {s' : Strm}, Reps X.K C p0 H2 G2 ds vs f → f.Nodup → (∀ a ∈ f, H a = none) → s' = s2 → Post C X p0 st H0 G0 H G env σ Q (.tup ds) s' → ∀ p, H2 p = none → Q (.ref p) (upd H2 p (.tup vs)) := by
    intro ds vs f s' r n fr e q p hp
    subst e
    exact q.fin g x2 (ex_upd hp) (tup_new r pl2 hp) n fr
  have newL : ∀ {ds : List D} {vs : List V} {f : List Addr} {s' : Strm}, Reps X.K C p0 H2 G2 ds vs f → f.Nodup → (∀ a ∈ f, H a = none) → s' = s2 → Post C X p0 st H0 G0 H G env σ Q (.lst true ds) s' → ∀ p, H2 p = none → Q (.ref p) (upd H2 p (.lst vs)) := by
    intro ds vs f s' r n fr e q p hp
    subst e
    refine q.fin g x2 (ex_upd hp) (lst_new r pl2 hp x2.gs) (fp_new r hp n) fun a ha => ?_
    rcases List.mem_cons.mp ha with rfl | ha
    · exact grow_none g pl2 hp
    · exact fr a ha
  unfold binD at h
  split at h
  · rw [int_of ra, int_of rb]
    exact .inl ⟨_, _, rfl, rfl, Post.flat h g x2 int_rep⟩
  · obtain ⟨c, q⟩ := W_guard.mp (W_bind.mp h)
    obtain ⟨p1, rfl, r1⟩ := rat_of ra
    obtain ⟨p2, rfl, r2⟩ := rat_of rb
    exact .inr (.inl ⟨p1, p2, _, _, rfl, rfl, r1, r2, c.1, c.2, fun r H' e hr => Post.fin q g x2 e (rat_rep hr) .nil (by simp)⟩)
  · obtain ⟨c, q⟩ := W_guard.mp (W_bind.mp h)
    rw [str_of ra, str_of rb]
    exact .inr (.inr (.inl ⟨_, _, rfl, rfl, lim_size c, Post.flat q g x2 str_rep⟩))
  · obtain ⟨c, q⟩ := W_guard.mp (W_bind.mp h)
    obtain ⟨pa, va, f1, rfl, h1, r1, n1, k1⟩ := ea.1 _ rfl
    obtain ⟨pb, vb, f2, rfl, h2, r2, n2, k2⟩ := eb.1 _ rfl
    have l1 := r1.length
    have l2 := r2.length
    refine .inr (.inr (.inr (.inl ⟨pa, pb, va, vb, rfl, rfl, SqT.of h1, SqT.of h2, lim_size (by rw [← l1, ← l2]; exact c), fun e => ?_, fun e1 e2 => ?_, fun e1 e2 p hp => ?_⟩)))
    · subst e
      rw [List.length_eq_zero_iff.mp l1] at q
      exact Post.fin q g x2 Ex.rfl' (by rw [List.nil_append, Rep]; exact ⟨pb, vb, rfl, h2, r2⟩) n2 fun a ha => fr a (k2 a ha)
    · subst e2
      rw [List.length_eq_zero_iff.mp l2] at q
      exact Post.fin q g x2 Ex.rfl' (by rw [List.append_nil, Rep]; exact ⟨pa, va, rfl, h1, r1⟩) n1 fun a ha => (k1 a ha).1
    · refine newT (Reps.append r1 r2) (nodup_app.mpr ⟨n1, n2, fun a h1 h2 => (k1 a h1).2 (k2 a h2)⟩) (fun a ha => ?_) rfl q p hp
      rcases List.mem_append.mp ha with z | z
      · exact (k1 a z).1
      · exact fr a (k2 a z)
  · obtain ⟨c, q⟩ := W_guard.mp (W_bind.mp h)
    obtain ⟨pa, va, f1, rfl, h1, _, r1, n1, k1⟩ := ea.2 _ _ rfl
    obtain ⟨pb, vb, f2, rfl, h2, _, r2, n2, k2⟩ := eb.2 _ _ rfl
    have l1 := r1.length
    have l2 := r2.length
    refine .inr (.inr (.inr (.inr ⟨pa, pb, va, vb, rfl, rfl, h1, h2, lim_size (by rw [← l1, ← l2]; exact c), fun p hp => ?_⟩)))
    refine newL (Reps.append r1 r2) (nodup_app.mpr ⟨n1, n2, fun a h1 h2 => (k1 a h1).2 (k2 a h2)⟩) (fun a ha => ?_) rfl q p hp
    rcases List.mem_append.mp ha with z | z
    · exact (k1 a z).1
    · exact fr a (k2 a z)
  · rw [int_of ra, int_of rb]
    exact .inl ⟨_, _, rfl, rfl, Post.flat h g x2 int_rep⟩
  · obtain ⟨c, q⟩ := W_guard.mp (W_bind.mp h)
    obtain ⟨p1, rfl, r1⟩ := rat_of ra
    obtain ⟨p2, rfl, r2⟩ := rat_of rb
    exact .inr ⟨p1, p2, _, _, rfl, rfl, r1, r2, c.1, c.2, fun r H' e hr => Post.fin q g x2 e (rat_rep hr) .nil (by simp)⟩
  · obtain ⟨c, q⟩ := W_guard.mp (W_bind.mp h)
    rw [int_of ra, int_of rb]
    exact .inl ⟨_, _, rfl, rfl, c, Post.flat q g x2 int_rep⟩
  · obtain ⟨c, q⟩ := W_guard.mp (W_bind.mp h)
    obtain ⟨p1, rfl, r1⟩ := rat_of ra
    obtain ⟨p2, rfl, r2⟩ := rat_of rb
    exact .inr (.inl ⟨p1, p2, _, _, rfl, rfl, r1, r2, c.1, c.2, fun r H' e hr => Post.fin q g x2 e (rat_rep hr) .nil (by simp)⟩)
  · obtain ⟨⟨c1, c2, c3, c4⟩, q⟩ := W_guard.mp (W_bind.mp h)
    obtain ⟨pa, va, f1, rfl, h1, _, r1, n1, k1⟩ := ea.2 _ _ rfl
    rw [int_of rb]
    have l1 := r1.length
    have e1 := r1.noOwn c4
    subst e1
    exact .inr (.inr (.inl ⟨pa, _, va, rfl, rfl, h1, by omega, by omega, lim_size (by rw [← l1]; exact c3), fun p hp => newL (r1.rep _) .nil (by simp) rfl q p hp⟩))
  · obtain ⟨⟨c1, c2, c3, c5, c4⟩, q⟩ := W_guard.mp (W_bind.mp h)
    obtain ⟨pa, va, f1, rfl, h1, r1, n1, k1⟩ := ea.1 _ rfl
    rw [int_of rb]
    have l1 := r1.length
    have e1 := r1.noOwn c4
    subst e1
    rcases Int.lt_or_eq_of_le c1 with one | one
    case inr =>
      subst one
      refine .inr (.inr (.inr (.inr (.inl ⟨pa, va, rfl, rfl, SqT.of h1, ?_⟩))))
      have er : ∀ xs : List D, rep xs (1 : Int) = xs := fun xs => by unfold rep; show (List.replicate 1 xs).flatten = xs; rw [List.replicate_one, List.flatten_singleton]
      rw [er] at q
      exact Post.flat (show Post _ _ _ _ _ _ _ _ _ _ _ _ _ from q) g x2 (by rw [Rep]; exact ⟨pa, va, rfl, h1, r1⟩)
    refine .inr (.inr (.inr (.inl ⟨pa, _, va, rfl, rfl, SqT.of h1, fun z => ?_, by omega, c2, by rw [← l1]; exact c3, fun p hp => newT (r1.rep _) .nil (by simp) rfl q p hp⟩)))
    subst z
    rw [List.length_eq_zero_iff.mp l1] at c5
    cases c5
  · obtain ⟨⟨c1, c2, c3, c4⟩, q⟩ := W_guard.mp (W_bind.mp h)
    rw [str_of ra, int_of rb]
    exact .inr (.inr (.inr (.inr (.inr ⟨_, _, rfl, rfl, c1, c2, lim_size c3, c4, Post.flat q g x2 str_rep⟩))))
  · obtain ⟨c, q⟩ := W_guard.mp (W_bind.mp h)
    rw [int_of ra, int_of rb]
    exact ⟨_, _, rfl, rfl, c, Post.flat q g x2 int_rep⟩
  · obtain ⟨c, q⟩ := W_guard.mp (W_bind.mp h)
    rw [int_of ra, int_of rb]
    exact ⟨_, _, rfl, rfl, c, Post.flat q g x2 int_rep⟩
  · obtain ⟨c, q⟩ := W_guard.mp (W_bind.mp h)
    rw [int_of ra, int_of rb]
    exact ⟨_, _, rfl, rfl, c, Post.flat q g x2 int_rep⟩
  · exact h.elim
/-- two operands in a row -/
theorem two_b {m1 m2 : ME} {e1 e2 : Expr} (ha : SB C Γ k X m1 e1) (hb : SB C Γ k X m2 e2) : ∃ ta tb, PE X e1 ta ∧ PE X e2 tb ∧ ∀ (p0 : Option Addr) (H0 : Hp) (G0 : GS) (H : Hp) (G : GS) (s : Strm) (env : En) (σ : L2.St) (R : V → V → Hp → Prop), StX X.K C p0 H0 G0 H G s env σ →
    W (bw m1 (ev (callF Γ k) env .p m1)) s (fun dx s1 => W (bw m2 (ev (callF Γ k) env .p m2)) s1 fun dy s2 => ∀ (H1 H2 : Hp) (G2 : GS) (x y : V) (fa fb : List Addr), Grow p0 H G H2 G2 → StX X.K C p0 H0 G0 H2 G2 s2 env σ → (∀ a, H1 a = none → H a = none) →
      Rep X.K C p0 H2 G2 dx x fa → EF X.K C p0 (fun a => H a = none ∧ H1 a ≠ none) H2 G2 dx x → Rep X.K C p0 H2 G2 dy y fb → EF X.K C p0 (fun a => H1 a = none) H2 G2 dy y → R x y H2) →
    ta σ H fun x H1 => tb σ H1 fun y H2 => R x y H2 := by
  obtain ⟨ta, a1, a2⟩ := ha
  obtain ⟨tb, b1, b2⟩ := hb
  refine ⟨ta, tb, a1, b1, fun p0 H0 G0 H G s env σ R x h => a2 p0 H0 G0 H G s env σ _ x (W_mono h fun dx s1 q H1 G1 v fa g1 x1 r1 e1 => ?_)⟩
  refine b2 p0 H0 G0 H1 G1 s1 env σ _ x1 (W_mono q fun dy s2 q H2 G2 u fb g2 x2 r2 e2 => ?_)
  exact q H1 H2 G2 v u fa fb (g1.trans g2) x2 (fun a ha => grow_none g1 x1.pl ha) (r1.grow x1.pl g2) (e1.grow x1.pl g2 fun a xs z y => ⟨z, by rw [y]; simp⟩) r2 e2
theorem se_bin (g : Gd C Γ Gs k X) {op : BOp} {m1 m2 : ME} {e1 e2 : Expr} (ha : SE C Γ k X .p m1 e1) (hb : SE C Γ k X .p m2 e2) : SE C Γ k X p (.bin op m1 m2) (.BinOp e1 (opP op) e2 pos) := by
  obtain ⟨ta, tb, a1, b1, h2⟩ := two_b ha.b hb.b
  refine ⟨_, pe_op (bin_op g op) a1 b1, fun p0 H0 G0 H G s env σ Q x h => ?_⟩
  rw [ev] at h
  refine h2 p0 H0 G0 H G s env σ _ x (W_mono (W_bind.mp h) fun dx s1 q => W_mono (W_bind.mp q) fun dy s2 q H1 H2 G2 x y fa fb g x2 fr r1 e1 r2 e2 => ?_)
  exact bin_sem op x2 g x2.pl fr r1 e1 r2 e2 q
theorem se_neg (g : Gd C Γ Gs k X) {m : ME} {e : Expr} (ha : SE C Γ k X .v m e) : SE C Γ k X p (.neg m) (.UnaryOp .USub e pos) := by
  obtain ⟨t, a1, a2⟩ := ha
  have op : UnR X (unaryOp .USub) (fun x H Q => rU (fun i => .int (-i)) x H Q ∨ ∃ p a, x = .ref p ∧ RatAt C H p a ∧ Sm a ∧ ∀ r H', Ex H H' → RatAt C H' r (-a) → Q (.ref r) H') := by
    intro pins s σ H x v Q I rx q
    rcases q with q | q
    · exact un_neg pins s σ H x v Q I rx q
    · exact g.wd.neg X g.isX g.r pins s σ H x v Q I rx q
  refine ⟨_, pe_un op a1, fun p0 H0 G0 H G s env σ Q x h => ?_⟩
  rw [ev] at h
  refine a2 p0 H0 G0 H G s env σ _ x (W_mono (W_bind.mp h) fun d s1 q H1 G1 v fp g1 x1 r1 _ => ?_)
  unfold negD at q
  split at q
  · rw [int_of r1]
    exact .inl ⟨_, rfl, Post.flat q g1 x1 int_rep⟩
  · obtain ⟨c, q⟩ := W_guard.mp (W_bind.mp q)
    obtain ⟨p1, rfl, r2⟩ := rat_of r1
    exact .inr ⟨p1, _, rfl, r2, c, fun r H' e hr => Post.fin q g1 x1 e (rat_rep hr) .nil (by simp)⟩
  · exact q.elim
end
end Mp

namespace Mp
open PySem PySem.Spec
open PyProof.Rows L2
/-- nothing is known where the evaluator says nothing -/
theorem pe_nev {X : Cx} {e : Expr} : PE X e (fun _ _ _ => False) := ⟨fun _ _ _ _ _ _ h => h.elim⟩
theorem pt_nev {X : Cx} {e : Expr} : PT X e (fun _ _ _ => False) := ⟨fun _ _ _ _ _ _ h => h.elim⟩
def vBl (c : Bool) : V → Bool
  | .bl b => b == c
  | _ => false
theorem vBl_is {c : Bool} {x : V} {v : Value} (r : RelV x v) : plainIs v (.bool c) = true ∧ (v == Value.bool c) = vBl c x := by
  cases x with
  | bl b =>
    cases (show v = Value.bool b from r)
    refine ⟨rfl, ?_⟩
    show (Value.bool b == Value.bool c) = (b == c)
    by_cases h : b = c
    · subst h; rw [beq_self_eq_true, beq_self_eq_true]
    · rw [beq_eq_false_iff_ne.mpr (fun z => h (Value.bool.inj z)), beq_eq_false_iff_ne.mpr h]
  | non => cases (show v = Value.none from r); exact ⟨rfl, beq_eq_false_iff_ne.mpr (fun z => nomatch z)⟩
  | int i => obtain ⟨t, rfl⟩ := r; exact ⟨rfl, beq_eq_false_iff_ne.mpr (fun z => nomatch z)⟩
  | str i => obtain ⟨t, rfl⟩ := r; exact ⟨rfl, beq_eq_false_iff_ne.mpr (fun z => nomatch z)⟩
  | byt i => obtain ⟨t, rfl⟩ := r; exact ⟨rfl, beq_eq_false_iff_ne.mpr (fun z => nomatch z)⟩
  | flt i => obtain ⟨t, rfl⟩ := r; exact ⟨rfl, beq_eq_false_iff_ne.mpr (fun z => nomatch z)⟩
  | ref a => cases (show v = Value.ref a from r); exact ⟨rfl, beq_eq_false_iff_ne.mpr (fun z => nomatch z)⟩
  | ty n => cases (show v = Value.type n from r); exact ⟨rfl, beq_eq_false_iff_ne.mpr (fun z => nomatch z)⟩
theorem op_isNB {X : Cx} : OpR X (compareOp .Is) fun x y H Q => (y = .non ∧ Q (.bl (decide (x = .non))) H) ∨ ∃ c, y = .bl c ∧ Q (.bl (vBl c x)) H := by
  intro pins s σ H x y v u Q I rx ry h
  rcases h with h | ⟨c, rfl, q⟩
  · exact op_isN pins s σ H x y v u Q I rx ry h
  · cases (show u = Value.bool c from ry)
    obtain ⟨h1, h2⟩ := vBl_is (c := c) rx
    exact wpAny_is_plain h1 (by rw [h2]; exact ⟨.bl _, H, I, rfl, q⟩)
theorem op_notNB {X : Cx} : OpR X (compareOp .IsNot) fun x y H Q => (y = .non ∧ Q (.bl (!decide (x = .non))) H) ∨ ∃ c, y = .bl c ∧ Q (.bl (!vBl c x)) H := by
  intro pins s σ H x y v u Q I rx ry h
  rcases h with h | ⟨c, rfl, q⟩
  · exact op_notN pins s σ H x y v u Q I rx ry h
  · cases (show u = Value.bool c from ry)
    obtain ⟨h1, h2⟩ := vBl_is (c := c) rx
    exact wpAny_isNot_plain h1 (by rw [h2]; exact ⟨.bl _, H, I, rfl, q⟩)
def rCmp (K : PySem.W.Frag) (C : Addr) : CmpOp → R2
  | .Eq => rEqv K C false
  | .NotEq => rEqv K C true
  | .Lt => rI0 fun i j => .bl (decide (i < j))
  | .LtE => rI0 fun i j => .bl (decide (i ≤ j))
  | .Gt => rI0 fun i j => .bl (decide (j < i))
  | .GtE => rI0 fun i j => .bl (decide (j ≤ i))
  | .Is => fun x y H Q => (y = .non ∧ Q (.bl (decide (x = .non))) H) ∨ ∃ c, y = .bl c ∧ Q (.bl (vBl c x)) H
  | .IsNot => fun x y H Q => (y = .non ∧ Q (.bl (!decide (x = .non))) H) ∨ ∃ c, y = .bl c ∧ Q (.bl (!vBl c x)) H
  | .In => rInv K C false
  | .NotIn => rInv K C true
section
variable {C : Addr} {Γ : String → Option MDef} {Gs : String → Option Int} {k : Nat} {X : Cx} {p0 : Option Addr} {H H1 H2 H' H0 : Hp} {G G1 G2 G' G0 : GS} {s s2 : Strm} {env : En} {σ : L2.St} {Q : VK} {d : D} {v : V} {fp : List Addr} {st : Bool}
variable {p : Md} {pos pos' : Pos} {j : Nat}
theorem cmp_op (g : Gd C Γ Gs k X) (op : CmpOp) : OpR X (compareOp op) (rCmp X.K C op) := by
  cases op with
  | Eq => exact g.wd.eq X g.isX g.r
  | NotEq => exact g.wd.ne X g.isX g.r
  | Lt => exact op_lt
  | LtE => exact op_le
  | Gt => exact op_gt
  | GtE => exact op_ge
  | Is => exact op_isNB
  | IsNot => exact op_notNB
  | In => exact g.wd.inn X g.isX g.r
  | NotIn => exact g.wd.nin X g.isX g.r
theorem isNon_v {K : PySem.W.Frag} {a : D} {x : V} {f : List Addr} (r : Rep K C p0 H G a x f) : decide (x = .non) = isNon a := by
  cases a with
  | non => rw [non_of r] <;> rfl
  | bl b => rw [bl_of r] <;> rfl
  | int i => rw [int_of r] <;> rfl
  | str i => rw [str_of r] <;> rfl
  | rat q => obtain ⟨p, rfl, _⟩ := rat_of r; rfl
  | tup ds => obtain ⟨p, vs, rfl, _⟩ := tup_of r; rfl
  | lst o ds => obtain ⟨p, vs, f, rfl, _⟩ := lst_of r; rfl
  | strm => rw [Rep] at r; obtain ⟨p, _, rfl, _⟩ := r; rfl
  | scr ns => rw [Rep] at r; obtain ⟨⟨p, rfl, _⟩, _⟩ := r; rfl
theorem isBl_v {K : PySem.W.Frag} {a : D} {c : Bool} {x : V} {f : List Addr} (r : Rep K C p0 H G a x f) : vBl c x = isBl c a := by
  cases a with
  | non => rw [non_of r] <;> rfl
  | bl b => rw [bl_of r] <;> rfl
  | int i => rw [int_of r] <;> rfl
  | str i => rw [str_of r] <;> rfl
  | rat q => obtain ⟨p, rfl, _⟩ := rat_of r; rfl
  | tup ds => obtain ⟨p, vs, rfl, _⟩ := tup_of r; rfl
  | lst o ds => obtain ⟨p, vs, f, rfl, _⟩ := lst_of r; rfl
  | strm => rw [Rep] at r; obtain ⟨p, _, rfl, _⟩ := r; rfl
  | scr ns => rw [Rep] at r; obtain ⟨⟨p, rfl, _⟩, _⟩ := r; rfl
theorem cmp_sem (op : CmpOp) {dx dy : D} {x y : V} {fa fb : List Addr} {R : Bool → Strm → Prop} (pl : PL p0 H2) (ra : Rep X.K C p0 H2 G2 dx x fa) (rb : Rep X.K C p0 H2 G2 dy y fb)
    (h : W (cmpD op dx dy) s2 R) (q : ∀ b H', R b s2 → Ex H2 H' → Q (.bl b) H') : rCmp X.K C op x y H2 Q := by
  unfold cmpD at h
  split at h
  · obtain ⟨c, h⟩ := W_guard.mp (W_bind.mp h)
    obtain ⟨r, e, z⟩ := W_ofO.mp h
    exact ⟨p0, G2, _, _, fa, fb, r, pl, ra, rb, c, e, fun H' x => by simpa using q r H' z x⟩
  · obtain ⟨c, h⟩ := W_guard.mp (W_bind.mp h)
    obtain ⟨r, e, z⟩ := W_ofO.mp (W_bind.mp h)
    exact ⟨p0, G2, _, _, fa, fb, r, pl, ra, rb, c, e, fun H' x => by simpa using q _ H' z x⟩
  · rw [int_of ra, int_of rb]; exact ⟨_, _, rfl, rfl, q _ _ h Ex.rfl'⟩
  · rw [int_of ra, int_of rb]; exact ⟨_, _, rfl, rfl, q _ _ h Ex.rfl'⟩
  · rw [int_of ra, int_of rb]; exact ⟨_, _, rfl, rfl, q _ _ h Ex.rfl'⟩
  · rw [int_of ra, int_of rb]; exact ⟨_, _, rfl, rfl, q _ _ h Ex.rfl'⟩
  · refine .inl ⟨non_of rb, ?_⟩
    rw [isNon_v ra]
    exact q _ _ h Ex.rfl'
  · refine .inl ⟨non_of rb, ?_⟩
    rw [isNon_v ra]
    exact q _ _ h Ex.rfl'
  · refine .inr ⟨_, bl_of rb, ?_⟩
    rw [isBl_v ra]
    exact q _ _ h Ex.rfl'
  · refine .inr ⟨_, bl_of rb, ?_⟩
    rw [isBl_v ra]
    exact q _ _ h Ex.rfl'
  · obtain ⟨c, h⟩ := W_guard.mp (W_bind.mp h)
    obtain ⟨r, e, z⟩ := W_ofO.mp h
    exact ⟨p0, G2, _, _, fa, fb, r, pl, ra, .inr ⟨_, rb⟩, c, e, fun H' x => by simpa using q r H' z x⟩
  · obtain ⟨c, h⟩ := W_guard.mp (W_bind.mp h)
    obtain ⟨r, e, z⟩ := W_ofO.mp h
    exact ⟨p0, G2, _, _, fa, fb, r, pl, ra, .inl rb, c, e, fun H' x => by simpa using q r H' z x⟩
  · obtain ⟨c, h⟩ := W_guard.mp (W_bind.mp h)
    obtain ⟨r, e, z⟩ := W_ofO.mp (W_bind.mp h)
    exact ⟨p0, G2, _, _, fa, fb, r, pl, ra, .inr ⟨_, rb⟩, c, e, fun H' x => by simpa using q _ H' z x⟩
  · obtain ⟨c, h⟩ := W_guard.mp (W_bind.mp h)
    obtain ⟨r, e, z⟩ := W_ofO.mp (W_bind.mp h)
    exact ⟨p0, G2, _, _, fa, fb, r, pl, ra, .inl rb, c, e, fun H' x => by simpa using q _ H' z x⟩
  · exact h.elim
/-- two expressions in a row, what they are looked at -/
theorem two_p {pa pb : Md} {m1 m2 : ME} {e1 e2 : Expr} (ha : SE C Γ k X pa m1 e1) (hb : SE C Γ k X pb m2 e2) : ∃ ta tb, PE X e1 ta ∧ PE X e2 tb ∧ ∀ (p0 : Option Addr) (H0 : Hp) (G0 : GS) (H : Hp) (G : GS) (s : Strm) (env : En) (σ : L2.St) (R : V → V → Hp → Prop), StX X.K C p0 H0 G0 H G s env σ →
    W (ev (callF Γ k) env pa m1) s (fun dx s1 => W (ev (callF Γ k) env pb m2) s1 fun dy s2 => ∀ (H2 : Hp) (G2 : GS) (x y : V) (fa fb : List Addr), Grow p0 H G H2 G2 → StX X.K C p0 H0 G0 H2 G2 s2 env σ →
      Rep X.K C p0 H2 G2 dx x fa → (strict pa m1 = true → fa.Nodup ∧ ∀ a ∈ fa, H a = none) → Rep X.K C p0 H2 G2 dy y fb → R x y H2) →
    ta σ H fun x H1 => tb σ H1 fun y H2 => R x y H2 := by
  obtain ⟨ta, a1, a2⟩ := ha
  obtain ⟨tb, b1, b2⟩ := hb
  refine ⟨ta, tb, a1, b1, fun p0 H0 G0 H G s env σ R x h => a2 p0 H0 G0 H G s env σ _ x (W_mono h fun dx s1 q H1 G1 v fa g1 x1 r1 z1 => ?_)⟩
  exact b2 p0 H0 G0 H1 G1 s1 env σ _ x1 (W_mono q fun dy s2 q H2 G2 u fb g2 x2 r2 _ => q H2 G2 v u fa fb (g1.trans g2) x2 (r1.grow x1.pl g2) z1 r2)
theorem se_cmp (g : Gd C Γ Gs k X) {op : CmpOp} {m1 m2 : ME} {e1 e2 : Expr} (ha : SE C Γ k X .p m1 e1) (hb : SE C Γ k X .p m2 e2) (hm : behindInMarks op e2 = false) :
    SE C Γ k X p (.cmp op m1 m2) (.Compare e1 [op] [e2] pos) ∧ ST C Γ k X (.cmp op m1 m2) (.Compare e1 [op] [e2] pos) := by
  obtain ⟨ta, tb, a1, b1, h2⟩ := two_p ha hb
  refine ⟨⟨_, pe_cmpR (cmp_op g op) a1 b1 hm, fun p0 H0 G0 H G s env σ Q x h => ?_⟩, ⟨_, pt_cmpR (cmp_op g op) a1 b1 hm, fun p0 H0 G0 H G s env σ Q x h => ?_⟩⟩
  · rw [ev] at h
    refine h2 p0 H0 G0 H G s env σ _ x (W_mono (W_bind.mp h) fun dx s1 q => W_mono (W_bind.mp q) fun dy s2 q H2 G2 x y fa fb g x2 r1 _ r2 => ?_)
    refine cmp_sem op x2.pl r1 r2 (W_bind.mp q) fun b H' q e => ?_
    exact Post.fin q g x2 e bl_rep .nil (by simp)
  · unfold tru at h
    rw [ev] at h
    have h := W_bind.mp h
    refine h2 p0 H0 G0 H G s env σ _ x (W_mono (W_bind.mp h) fun dx s1 q => W_mono (W_bind.mp q) fun dy s2 q H2 G2 x y fa fb g x2 r1 _ r2 => ?_)
    refine cmp_sem op x2.pl r1 r2 (W_bind.mp q) fun b H' q e => ⟨b, rfl, ?_⟩
    exact q H' G2 (g.trans (grow_ex e)) (x2.ex' e)
theorem se_chain (g : Gd C Γ Gs k X) {op op' : CmpOp} {m1 m2 m3 : ME} {e1 e2 e3 : Expr} (ha : SE C Γ k X .v m1 e1) (hb : SE C Γ k X .v m2 e2) (hc : SE C Γ k X .v m3 e3) (hm : lastMarks [op, op'] [e2, e3] = false) :
    SE C Γ k X p (.chain op op' m1 m2 m3) (.Compare e1 [op, op'] [e2, e3] pos) ∧ ST C Γ k X (.chain op op' m1 m2 m3) (.Compare e1 [op, op'] [e2, e3] pos) := by
  obtain ⟨ta, tb, a1, b1, h2⟩ := two_p ha hb
  obtain ⟨tc, c1, c2⟩ := hc
  refine ⟨⟨_, pe_chain (cmp_op g op) (cmp_op g op') a1 b1 c1 hm, fun p0 H0 G0 H G s env σ Q x h => ?_⟩, ⟨_, pt_chain (cmp_op g op) (cmp_op g op') a1 b1 c1 hm, fun p0 H0 G0 H G s env σ Q x h => ?_⟩⟩
  · rw [ev] at h
    refine h2 p0 H0 G0 H G s env σ _ x (W_mono (W_bind.mp h) fun dx s1 q => W_mono (W_bind.mp q) fun dy s2 q H2 G2 x y fa fb g x2 r1 _ r2 => ?_)
    refine cmp_sem op x2.pl r1 r2 (W_bind.mp q) fun b H' q e => ⟨b, rfl, ?_⟩
    have x3 := x2.ex' e
    cases b with
    | false => exact ite2 (fun z => by cases z) fun _ => Post.fin q g x2 e bl_rep .nil (by simp)
    | true =>
      refine ite2 (fun _ => ?_) fun z => absurd rfl z
      refine c2 p0 H0 G0 H' G2 s2 env σ _ x3 (W_mono (W_bind.mp q) fun dz s3 q H3 G3 z fz g3 x4 r3 _ => ?_)
      refine cmp_sem op' x4.pl ((r2.grow x2.pl (grow_ex e)).grow x3.pl g3) r3 (W_bind.mp q) fun b H' q e' => ?_
      exact Post.fin q ((g.trans (grow_ex e)).trans g3) x4 e' bl_rep .nil (by simp)
  · unfold tru at h
    rw [ev] at h
    have h := W_bind.mp h
    refine h2 p0 H0 G0 H G s env σ _ x (W_mono (W_bind.mp h) fun dx s1 q => W_mono (W_bind.mp q) fun dy s2 q H2 G2 x y fa fb g x2 r1 _ r2 => ?_)
    refine cmp_sem op x2.pl r1 r2 (W_bind.mp q) fun b H' q e => ⟨b, rfl, ?_⟩
    have x3 := x2.ex' e
    cases b with
    | false => exact ite2 (fun z => by cases z) fun _ => ⟨false, rfl, q H' G2 (g.trans (grow_ex e)) (x2.ex' e)⟩
    | true =>
      refine ite2 (fun _ => ?_) fun z => absurd rfl z
      refine c2 p0 H0 G0 H' G2 s2 env σ _ x3 (W_mono (W_bind.mp q) fun dz s3 q H3 G3 z fz g3 x4 r3 _ => ?_)
      refine cmp_sem op' x4.pl ((r2.grow x2.pl (grow_ex e)).grow x3.pl g3) r3 (W_bind.mp q) fun b H' q e' => ⟨b, rfl, ?_⟩
      exact q H' G3 (((g.trans (grow_ex e)).trans g3).trans (grow_ex e')) (x4.ex' e')
/-! ### truth -/
theorem isEmpty_len {α β : Type} {xs : List α} {ys : List β} (h : xs.length = ys.length) : xs.isEmpty = ys.isEmpty := by
  cases xs <;> cases ys <;> first | rfl | cases h
theorem truth_sem {a : D} {x : V} {f : List Addr} {R : Bool → Strm → Prop} (r : Rep X.K C p0 H G a x f) (h : W (truth a) s R) : ∃ b, TruV X.K x H b ∧ R b s := by
  unfold truth at h
  split at h
  · rw [non_of r]; exact ⟨_, rfl, h⟩
  · rw [bl_of r]; exact ⟨_, rfl, h⟩
  · rw [int_of r]; exact ⟨_, rfl, h⟩
  · obtain ⟨p, vs, rfl, h1, r1⟩ := tup_of r
    refine ⟨_, .inr (.inl ⟨vs, SqT.of h1, ?_⟩), h⟩
    rw [isEmpty_len r1.length]
  · obtain ⟨p, vs, f, rfl, h1, _, r1, _⟩ := lst_of r
    refine ⟨_, .inl ⟨vs, SqL.of h1, ?_⟩, h⟩
    rw [isEmpty_len r1.length]
  · exact h.elim
/-- any expression as a test -/
theorem SE.t {m : ME} {e : Expr} (h : SE C Γ k X .t m e) (he : ∀ whole, isTrue e X.env whole = (do let v ← whole; standAt e.pos; holding [v] (truthy v))) : ST C Γ k X m e := by
  obtain ⟨t, a, b⟩ := h
  refine ⟨_, pt_truth a he, fun p0 H0 G0 H G s env σ Q x h => b p0 H0 G0 H G s env σ _ x (W_mono (W_bind.mp h) fun d s1 q H1 G1 v fp g1 x1 r1 _ => ?_)⟩
  obtain ⟨c, c1, c2⟩ := truth_sem r1 q
  exact ⟨c, c1, c2 H1 G1 g1 x1⟩
theorem se_not {m : ME} {e : Expr} (ha : SE C Γ k X .p m e) (hp : p ≠ .t) : SE C Γ k X p (.not m) (.UnaryOp .Not e pos) := by
  obtain ⟨t, a, b⟩ := ha
  refine ⟨_, pe_notT a, fun p0 H0 G0 H G s env σ Q x h => ?_⟩
  have h : W (notB (tru (ev (callF Γ k) env .p m))) s (Post C X p0 (strict p (.not m)) H0 G0 H G env σ Q) := by
    cases p <;> first | exact absurd rfl hp | exact h
  unfold notB tru at h
  refine b p0 H0 G0 H G s env σ _ x (W_mono (W_bind.mp (W_bind.mp h)) fun d s1 q H1 G1 v fp g1 x1 r1 _ => ?_)
  obtain ⟨c, c1, c2⟩ := truth_sem r1 q
  exact ⟨c, c1, Post.flat c2 g1 x1 bl_rep⟩
theorem st_not {m : ME} {e : Expr} (ha : ST C Γ k X m e) : ST C Γ k X (.not m) (.UnaryOp .Not e pos) := by
  obtain ⟨t, a, b⟩ := ha
  refine ⟨_, pt_not a, fun p0 H0 G0 H G s env σ Q x h => ?_⟩
  have h : W (tru (notB (tru (ev (callF Γ k) env .t m)))) s _ := h
  unfold tru notB at h
  exact b p0 H0 G0 H G s env σ _ x (W_mono (W_bind.mp (W_bind.mp h)) fun c s1 q H1 G1 g1 x1 => q H1 G1 g1 x1)
theorem toB_sem {a : D} {x : V} {f : List Addr} {R : Bool → Strm → Prop} (r : Rep X.K C p0 H G a x f) (h : W (toB a) s R) : ∃ b, x = .bl b ∧ R b s := by
  unfold toB at h
  split at h
  · rw [bl_of r]; exact ⟨_, rfl, h⟩
  · exact h.elim
theorem strict_v {m : ME} : strict .v m = true := rfl
theorem Post.strict' (h : Post C X p0 true H0 G0 H G env σ Q d s2) : Post C X p0 st H0 G0 H G env σ Q d s2 → Post C X p0 st H0 G0 H G env σ Q d s2 := id
theorem se_and {a b : Expr} {rest : List Expr} {m1 m2 : ME} (ha : SE C Γ k X .v m1 a) (hb : SE C Γ k X .v m2 (.BoolOp .And (b :: rest) pos)) (hp : p ≠ .t) : SE C Γ k X p (.and m1 m2) (.BoolOp .And (a :: b :: rest) pos) := by
  obtain ⟨t, a1, a2⟩ := ha
  obtain ⟨u, b1, b2⟩ := hb
  refine ⟨_, pe_and a1 b1, fun p0 H0 G0 H G s env σ Q x h => ?_⟩
  have e : strict p (.and m1 m2) = true := by cases p <;> rfl
  rw [e] at h
  have h : W (do
      let x ← ev (callF Γ k) env .v m1
      let c ← toB x
      if c then ev (callF Γ k) env .v m2 else pure (.bl false)) s (Post C X p0 true H0 G0 H G env σ Q) := by
    cases p <;> first | exact absurd rfl hp | exact h
  refine a2 p0 H0 G0 H G s env σ _ x (W_mono (W_bind.mp h) fun d s1 q H1 G1 v fp g1 x1 r1 _ => ?_)
  obtain ⟨c, rfl, q⟩ := toB_sem r1 (W_bind.mp q)
  refine ⟨c, rfl, ?_⟩
  cases c with
  | false => exact ite2 (fun z => by cases z) fun _ => Post.flat (show Post _ _ _ _ _ _ _ _ _ _ _ _ _ from q) g1 x1 bl_rep
  | true =>
    refine ite2 (fun _ => ?_) fun z => absurd rfl z
    refine b2 p0 H0 G0 H1 G1 s1 env σ _ x1 (W_mono q fun d s2 q H2 G2 v fp g2 x2 r2 z2 => ?_)
    refine q H2 G2 v fp (g1.trans g2) x2 r2 fun _ => ?_
    obtain ⟨n, f⟩ := z2 rfl
    exact ⟨n, fun a ha => grow_none g1 x1.pl (f a ha)⟩
theorem se_or {a b : Expr} {rest : List Expr} {m1 m2 : ME} (ha : SE C Γ k X .v m1 a) (hb : SE C Γ k X .v m2 (.BoolOp .Or (b :: rest) pos)) (hp : p ≠ .t) : SE C Γ k X p (.or m1 m2) (.BoolOp .Or (a :: b :: rest) pos) := by
  obtain ⟨t, a1, a2⟩ := ha
  obtain ⟨u, b1, b2⟩ := hb
  refine ⟨_, pe_or a1 b1, fun p0 H0 G0 H G s env σ Q x h => ?_⟩
  have e : strict p (.or m1 m2) = true := by cases p <;> rfl
  rw [e] at h
  have h : W (do
      let x ← ev (callF Γ k) env .v m1
      let c ← toB x
      if c then pure (.bl true) else ev (callF Γ k) env .v m2) s (Post C X p0 true H0 G0 H G env σ Q) := by
    cases p <;> first | exact absurd rfl hp | exact h
  refine a2 p0 H0 G0 H G s env σ _ x (W_mono (W_bind.mp h) fun d s1 q H1 G1 v fp g1 x1 r1 _ => ?_)
  obtain ⟨c, rfl, q⟩ := toB_sem r1 (W_bind.mp q)
  refine ⟨c, rfl, ?_⟩
  cases c with
  | true => exact ite2 (fun _ => Post.flat (show Post _ _ _ _ _ _ _ _ _ _ _ _ _ from q) g1 x1 bl_rep) fun z => absurd rfl z
  | false =>
    refine ite2 (fun z => by cases z) fun _ => ?_
    refine b2 p0 H0 G0 H1 G1 s1 env σ _ x1 (W_mono q fun d s2 q H2 G2 v fp g2 x2 r2 z2 => ?_)
    refine q H2 G2 v fp (g1.trans g2) x2 r2 fun _ => ?_
    obtain ⟨n, f⟩ := z2 rfl
    exact ⟨n, fun a ha => grow_none g1 x1.pl (f a ha)⟩
theorem se_one {op : BoolOp} {a : Expr} {m : ME} (ha : SE C Γ k X p m a) : SE C Γ k X p m (.BoolOp op [a] pos) := by
  obtain ⟨t, a1, a2⟩ := ha
  exact ⟨t, pe_one a1, a2⟩
theorem sw_and1 {a : Expr} {m : ME} (ha : ST C Γ k X m a) : SW C Γ k X m (.BoolOp .And [a] pos) := by
  obtain ⟨t, a1, a2⟩ := ha
  exact ⟨t, pw_and1 a1, a2⟩
theorem sw_or1 {a : Expr} {m : ME} (ha : ST C Γ k X m a) : SW C Γ k X m (.BoolOp .Or [a] pos) := by
  obtain ⟨t, a1, a2⟩ := ha
  exact ⟨t, pw_or1 a1, a2⟩
theorem sw_and {a b : Expr} {rest : List Expr} {m1 m2 : ME} (ha : ST C Γ k X m1 a) (hb : SW C Γ k X m2 (.BoolOp .And (b :: rest) pos)) : SW C Γ k X (.and m1 m2) (.BoolOp .And (a :: b :: rest) pos) := by
  obtain ⟨t, a1, a2⟩ := ha
  obtain ⟨u, b1, b2⟩ := hb
  refine ⟨_, pw_and a1 b1, fun p0 H0 G0 H G s env σ Q x h => ?_⟩
  have h := W_bind.mp (show W ((do
      let c ← tru (ev (callF Γ k) env .t m1)
      if c then do let r ← tru (ev (callF Γ k) env .t m2); pure (D.bl r) else pure (.bl false) : M D) >>= truth) s _ from h)
  refine a2 p0 H0 G0 H G s env σ _ x (W_mono (W_bind.mp h) fun c s1 q H1 G1 g1 x1 => ?_)
  cases c with
  | false => exact ite2 (fun z => by cases z) fun _ => (show ∀ H' G', Grow p0 H G H' G' → StX X.K C p0 H0 G0 H' G' s1 env σ → Q false H' from q) H1 G1 g1 x1
  | true =>
    refine ite2 (fun _ => ?_) fun z => absurd rfl z
    have q := W_bind.mp (show W (tru (ev (callF Γ k) env .t m2) >>= fun r => pure (D.bl r)) s1 _ from q)
    refine b2 p0 H0 G0 H1 G1 s1 env σ _ x1 (W_mono q fun c s2 q H2 G2 g2 x2 => ?_)
    exact (show ∀ H' G', Grow p0 H G H' G' → StX X.K C p0 H0 G0 H' G' s2 env σ → Q c H' from q) H2 G2 (g1.trans g2) x2
theorem sw_or {a b : Expr} {rest : List Expr} {m1 m2 : ME} (ha : ST C Γ k X m1 a) (hb : SW C Γ k X m2 (.BoolOp .Or (b :: rest) pos)) : SW C Γ k X (.or m1 m2) (.BoolOp .Or (a :: b :: rest) pos) := by
  obtain ⟨t, a1, a2⟩ := ha
  obtain ⟨u, b1, b2⟩ := hb
  refine ⟨_, pw_or a1 b1, fun p0 H0 G0 H G s env σ Q x h => ?_⟩
  have h := W_bind.mp (show W ((do
      let c ← tru (ev (callF Γ k) env .t m1)
      if c then pure (.bl true) else do let r ← tru (ev (callF Γ k) env .t m2); pure (D.bl r) : M D) >>= truth) s _ from h)
  refine a2 p0 H0 G0 H G s env σ _ x (W_mono (W_bind.mp h) fun c s1 q H1 G1 g1 x1 => ?_)
  cases c with
  | true => exact ite2 (fun _ => (show ∀ H' G', Grow p0 H G H' G' → StX X.K C p0 H0 G0 H' G' s1 env σ → Q true H' from q) H1 G1 g1 x1) fun z => absurd rfl z
  | false =>
    refine ite2 (fun z => by cases z) fun _ => ?_
    have q := W_bind.mp (show W (tru (ev (callF Γ k) env .t m2) >>= fun r => pure (D.bl r)) s1 _ from q)
    refine b2 p0 H0 G0 H1 G1 s1 env σ _ x1 (W_mono q fun c s2 q H2 G2 g2 x2 => ?_)
    exact (show ∀ H' G', Grow p0 H G H' G' → StX X.K C p0 H0 G0 H' G' s2 env σ → Q c H' from q) H2 G2 (g1.trans g2) x2
theorem se_ifx {c a b : Expr} {mc ma mb : ME} (hc : ST C Γ k X mc c) (ha : SE C Γ k X .v ma a) (hb : SE C Γ k X .v mb b) (hp : p ≠ .t) : SE C Γ k X p (.ifx mc ma mb) (.IfExp c a b pos) := by
  obtain ⟨t, c1, c2⟩ := hc
  obtain ⟨ta, a1, a2⟩ := ha
  obtain ⟨tb, b1, b2⟩ := hb
  refine ⟨_, pe_ifExp c1 a1 b1, fun p0 H0 G0 H G s env σ Q x h => ?_⟩
  have e : strict p (.ifx mc ma mb) = true := by cases p <;> rfl
  rw [e] at h
  have h : W (do
      let r ← tru (ev (callF Γ k) env .t mc)
      if r then ev (callF Γ k) env .v ma else ev (callF Γ k) env .v mb) s (Post C X p0 true H0 G0 H G env σ Q) := by
    cases p <;> first | exact absurd rfl hp | exact h
  refine c2 p0 H0 G0 H G s env σ _ x (W_mono (W_bind.mp h) fun c s1 q H1 G1 g1 x1 => ?_)
  cases c with
  | true =>
    refine ite2 (fun _ => ?_) fun z => absurd rfl z
    refine a2 p0 H0 G0 H1 G1 s1 env σ _ x1 (W_mono q fun d s2 q H2 G2 v fp g2 x2 r2 z2 => ?_)
    refine q H2 G2 v fp (g1.trans g2) x2 r2 fun _ => ?_
    obtain ⟨n, f⟩ := z2 rfl
    exact ⟨n, fun a ha => grow_none g1 x1.pl (f a ha)⟩
  | false =>
    refine ite2 (fun z => by cases z) fun _ => ?_
    refine b2 p0 H0 G0 H1 G1 s1 env σ _ x1 (W_mono q fun d s2 q H2 G2 v fp g2 x2 r2 z2 => ?_)
    refine q H2 G2 v fp (g1.trans g2) x2 r2 fun _ => ?_
    obtain ⟨n, f⟩ := z2 rfl
    exact ⟨n, fun a ha => grow_none g1 x1.pl (f a ha)⟩
end
end Mp

namespace Mp
open PySem PySem.Spec
open PyProof.Rows L2
section
variable {C : Addr} {Γ : String → Option MDef} {Gs : String → Option Int} {k : Nat} {X : Cx} {p0 : Option Addr} {H H1 H2 H' H0 : Hp} {G G1 G2 G' G0 : GS} {s s2 : Strm} {env : En} {σ : L2.St} {Q : VK} {d : D} {v : V} {fp : List Addr} {st : Bool}
variable {p : Md} {pos pos' : Pos} {j : Nat}
theorem pix_at {vs : List V} {i : Int} {ds : List D} {r : D} {K : PySem.W.Frag} {f : List Addr} (a : Reps K C p0 H G ds vs f) (h : (pix ds.length i).bind (fun j => ds[j]?) = some r) :
    ∃ w g, atI vs i = some w ∧ Rep K C p0 H G r w g ∧ (∀ x ∈ g, x ∈ f) ∧ (f.Nodup → g.Nodup) := by
  cases e : pix ds.length i with
  | none => rw [e] at h; cases h
  | some j =>
    rw [e] at h
    obtain ⟨w, g, e1, e2, e3, e4⟩ := a.get (j := j) (d := r) h
    refine ⟨w, g, ?_, e2, e3, e4⟩
    unfold atI
    rw [a.length] at e
    show (pix vs.length i).bind _ = _
    rw [e]
    exact e1
theorem se_ix {m1 m2 : ME} {e1 e2 : Expr} (ha : SE C Γ k X .p m1 e1) (hb : SE C Γ k X .v m2 e2) (hs : PlainIx e2) : SE C Γ k X p (.ix m1 m2) (.Subscript e1 e2 pos) := by
  obtain ⟨ta, tb, a1, b1, h2⟩ := two_p ha hb
  refine ⟨_, pe_ix ix_seq a1 b1 hs, fun p0 H0 G0 H G s env σ Q x h => ?_⟩
  rw [ev] at h
  refine h2 p0 H0 G0 H G s env σ _ x (W_mono (W_bind.mp h) fun dx s1 q => W_mono (W_bind.mp q) fun dy s2 q H2 G2 x y fa fb g x2 r1 z1 r2 => ?_)
  have fin : ∀ {r : D} {w : V} {f : List Addr} {s' : Strm}, s' = s2 → W (do guardM (p ≠ .v ∨ isPath m1 = false ∨ r.noOwn = true); pure r : M D) s' (Post C X p0 (strict p (.ix m1 m2)) H0 G0 H G env σ Q) → Rep X.K C p0 H2 G2 r w f → (isPath m1 = false → f.Nodup ∧ ∀ a ∈ f, H a = none) → Q w H2 := by
    intro r w f s' e hq hr hf
    rw [e] at hq
    obtain ⟨c, hq⟩ := W_guard.mp (W_bind.mp hq)
    refine (show Post _ _ _ _ _ _ _ _ _ _ _ _ _ from hq) H2 G2 w f g x2 hr fun z => ?_
    have c : isPath m1 = false ∨ r.noOwn = true := by
      cases hp : isPath m1 with
      | false => exact .inl rfl
      | true =>
        have : p = .v := by
          cases p <;> first | rfl | (exfalso; revert z; simp [strict, isPath, hp])
        rcases c with c | c | c
        · exact absurd this c
        · rw [hp] at c; cases c
        · exact .inr c
    rcases c with c | c
    · exact hf c
    · rw [hr.noOwn c]
      exact ⟨.nil, by simp⟩
  have q := W_bind.mp q
  unfold ixD at q
  split at q
  · obtain ⟨r, e, q⟩ := W_ofO.mp q
    obtain ⟨p1, vs, rfl, e1, r1⟩ := tup_of r1
    obtain ⟨w, f, a1, a2, a3, a4⟩ := pix_at r1 e
    rw [int_of r2]
    exact .inr (.inl ⟨p1, vs, _, w, rfl, rfl, SqT.of e1, a1, fin rfl q a2 fun z => ⟨a4 (z1 (by simp [strict, z])).1, fun x hx => (z1 (by simp [strict, z])).2 x (a3 x hx)⟩⟩)
  · obtain ⟨r, e, q⟩ := W_ofO.mp q
    obtain ⟨p1, vs, f', rfl, e1, _, r1, e5⟩ := lst_of r1
    obtain ⟨w, f, a1, a2, a3, a4⟩ := pix_at r1 e
    rw [int_of r2]
    refine .inl ⟨p1, vs, _, w, rfl, rfl, SqL.of e1, a1, fin rfl q a2 fun z => ?_⟩
    have hz := z1 (by simp [strict, z])
    rcases e5 with e5 | e5
    · rw [e5] at hz
      exact ⟨a4 (List.nodup_cons.mp hz.1).2, fun x hx => hz.2 x (List.mem_cons_of_mem _ (a3 x hx))⟩
    · rw [e5] at a3 a4
      exact ⟨a4 .nil, fun x hx => absurd (a3 x hx) (by simp)⟩
  · rename_i i q0 q1
    rw [Rep] at r1
    obtain ⟨pp, hp, rfl, _⟩ := r1
    obtain ⟨pc, b1, b2, b3, b4, b5⟩ := x2.strm pp hp
    rw [int_of r2]
    have q := W_getS.mp (W_bind.mp q)
    have flat : ∀ {r : D} {w : V} {s' : Strm}, s' = s2 → W (do guardM (p ≠ .v ∨ isPath m1 = false ∨ r.noOwn = true); pure r : M D) s' (Post C X p0 (strict p (.ix m1 m2)) H0 G0 H G env σ Q) → Rep X.K C p0 H2 G2 r w [] → Q w H2 := fun e q r => fin e q r fun _ => ⟨.nil, by simp⟩
    by_cases i0 : i = 0
    · subst i0
      refine .inl ⟨pp, _, _, .ref pc, rfl, rfl, SqL.of b1, rfl, flat rfl q ?_⟩
      rw [Rep]
      refine ⟨pc, s2.cells.map .int, [], rfl, b2, fun z => ?_, ?_, .inr ⟨rfl, b4, rfl, rfl⟩⟩
      · rw [hp] at z
        exact b3 (Option.some.inj z)
      · refine Reps.of_get (by simp) fun j d v h1 h2 => ?_
        rw [List.getElem?_map] at h1 h2
        cases hc : s2.cells[j]? with
        | none => rw [hc] at h1; cases h1
        | some n =>
          rw [hc] at h1 h2
          cases h1
          cases h2
          exact int_rep
    · have q := W_ite.mp q
      rw [if_neg i0] at q
      by_cases i1 : i = 1
      · subst i1
        exact .inl ⟨pp, _, _, .int s2.cell, rfl, rfl, SqL.of b1, rfl, flat rfl q int_rep⟩
      · have q := W_ite.mp q
        rw [if_neg i1] at q
        by_cases i2 : i = 2
        · subst i2
          exact .inl ⟨pp, _, _, .int s2.ix, rfl, rfl, SqL.of b1, rfl, flat rfl q int_rep⟩
        · have q := W_ite.mp q
          rw [if_neg i2] at q
          by_cases i3 : i = 3
          · subst i3
            exact .inl ⟨pp, _, _, .int s2.mixed, rfl, rfl, SqL.of b1, rfl, flat rfl q int_rep⟩
          · have q := W_ite.mp q
            rw [if_neg i3] at q
            exact q.elim
  · obtain ⟨c, q⟩ := W_guard.mp (W_bind.mp q)
    obtain ⟨ch, e, q⟩ := W_ofO.mp (W_bind.mp q)
    rw [str_of r1, int_of r2]
    exact .inr (.inr ⟨_, _, ch, rfl, rfl, lim_size c, e, fin rfl (W_pure.mp q) str_rep fun z => ⟨.nil, by simp⟩⟩)
  · exact q.elim
/-! ### slices -/
/-- a slice's part -/
def SO (C : Addr) (Γ : String → Option MDef) (k : Nat) (X : Cx) (m : ME) (o : Option Expr) : Prop := ∃ t, PO X o t ∧ ∀ (p0 : Option Addr) (H0 : Hp) (G0 : GS) (H : Hp) (G : GS) (s : Strm) (env : En) (σ : L2.St) (Q : Option Int → Hp → Prop), StX X.K C p0 H0 G0 H G s env σ →
  W (optI m (ev (callF Γ k) env .v m)) s (fun i s' => ∀ H' G', Grow p0 H G H' G' → StX X.K C p0 H0 G0 H' G' s' env σ → Q i H') → t σ H Q
theorem so_none : SO C Γ k X .nop none := ⟨_, po_none, fun p0 H0 G0 H G s env σ Q x h => (show ∀ H' G', Grow p0 H G H' G' → StX X.K C p0 H0 G0 H' G' s env σ → Q none H' from h) H G Grow.rfl' x⟩
theorem so_some {m : ME} {e : Expr} (h : SE C Γ k X .v m e) (hm : isNop m = false) : SO C Γ k X m (some e) := by
  obtain ⟨t, a, b⟩ := h
  refine ⟨_, po_some a, fun p0 H0 G0 H G s env σ Q x h => ?_⟩
  unfold optI at h
  rw [hm] at h
  have h := W_bind.mp (show W (ev (callF Γ k) env .v m >>= _) s _ from h)
  refine b p0 H0 G0 H G s env σ _ x (W_mono h fun d s1 q H1 G1 v fp g1 x1 r1 _ => ?_)
  split at q
  · rw [int_of r1]
    exact ⟨_, rfl, (show ∀ H' G', _ → _ → _ from q) H1 G1 g1 x1⟩
  · exact q.elim
theorem cut_drop {K : PySem.W.Frag} : ∀ {ds : List D} {vs : List V} {f : List Addr} (n : Nat), Reps K C p0 H G ds vs f → ∃ g, Reps K C p0 H G (ds.drop n) (vs.drop n) g ∧ (∀ x ∈ g, x ∈ f) ∧ (f.Nodup → g.Nodup)
  | [], _, _, n, r => by
    obtain ⟨rfl, rfl⟩ := Reps.nil_iff.mp r
    exact ⟨[], by simpa using r, by simp, fun h => h⟩
  | d :: ds, _, f, 0, r => ⟨f, by simpa using r, fun _ h => h, fun h => h⟩
  | d :: ds, _, _, n + 1, r => by
    obtain ⟨v, r', f, g, rfl, rfl, a, b⟩ := Reps.cons_iff.mp r
    obtain ⟨g', h1, h2, h3⟩ := cut_drop n b
    exact ⟨g', by simpa using h1, fun x hx => List.mem_append_right _ (h2 x hx), fun z => h3 (nodup_app.mp z).2.1⟩
theorem cut_take {K : PySem.W.Frag} : ∀ {ds : List D} {vs : List V} {f : List Addr} (n : Nat), Reps K C p0 H G ds vs f → ∃ g, Reps K C p0 H G (ds.take n) (vs.take n) g ∧ (∀ x ∈ g, x ∈ f) ∧ (f.Nodup → g.Nodup)
  | [], _, _, n, r => by
    obtain ⟨rfl, rfl⟩ := Reps.nil_iff.mp r
    exact ⟨[], by simpa using r, by simp, fun h => h⟩
  | d :: ds, _, f, 0, r => ⟨[], Reps.nil, by simp, fun _ => .nil⟩
  | d :: ds, _, _, n + 1, r => by
    obtain ⟨v, r', f, g, rfl, rfl, a, b⟩ := Reps.cons_iff.mp r
    obtain ⟨g', h1, h2, h3⟩ := cut_take n b
    refine ⟨f ++ g', by simpa using Reps.cons a h1, fun x hx => ?_, fun z => ?_⟩
    · exact (List.mem_append.mp hx).elim (fun h => List.mem_append_left _ h) fun h => List.mem_append_right _ (h2 x h)
    · obtain ⟨n1, n2, n3⟩ := nodup_app.mp z
      exact nodup_app.mpr ⟨n1, h3 n2, fun x hx hy => n3 x hx (h2 x hy)⟩
theorem cut_rep {K : PySem.W.Frag} {ds : List D} {vs : List V} {f : List Addr} (lo hi : Option Int) (r : Reps K C p0 H G ds vs f) : ∃ g, Reps K C p0 H G (cut ds lo hi) (cutV vs lo hi) g ∧ (∀ x ∈ g, x ∈ f) ∧ (f.Nodup → g.Nodup) := by
  unfold cut cutV
  rw [show HT.sIx = six from rfl, r.length]
  obtain ⟨g, a, b, c⟩ := cut_drop (six vs.length 0 lo) r
  obtain ⟨g', a', b', c'⟩ := cut_take (six vs.length vs.length hi - six vs.length 0 lo) a
  exact ⟨g', a', fun x hx => b x (b' x hx), fun z => c' (c z)⟩
theorem se_sl {m l h : ME} {e : Expr} {lo hi : Option Expr} {p2 : Pos} (ha : SE C Γ k X .p m e) (hl : SO C Γ k X l lo) (hh : SO C Γ k X h hi) : SE C Γ k X p (.sl m l h) (.Subscript e (.Slice lo hi none p2) pos) := by
  obtain ⟨ta, a1, a2⟩ := ha.b
  obtain ⟨tl, b1, b2⟩ := hl
  obtain ⟨th, c1, c2⟩ := hh
  refine ⟨_, pe_slice (SlR.or sl_list sl_tupA) a1 b1 c1, fun p0 H0 G0 H G s env σ Q x h => ?_⟩
  rw [ev] at h
  have est : strict p (.sl m l ‹ME›) = true := by cases p <;> rfl
  rw [est] at h
  refine a2 p0 H0 G0 H G s env σ _ x (W_mono (W_bind.mp h) fun d s1 q H1 G1 v fp g1 x1 r1 ef => ?_)
  refine b2 p0 H0 G0 H1 G1 s1 env σ _ x1 (W_mono (W_bind.mp q) fun lv s2 q H2 G2 g2 x2 => ?_)
  refine c2 p0 H0 G0 H2 G2 s2 env σ _ x2 (W_mono (W_bind.mp q) fun hv s3 q H3 G3 g3 x3 => ?_)
  have g := (g1.trans g2).trans g3
  have r3 := (r1.grow x1.pl g2).grow x2.pl g3
  have ef := (ef.grow (F' := fun a => H a = none) x1.pl g2 fun a _ z _ => z).grow (F' := fun a => H a = none) x2.pl g3 fun a _ z _ => z
  unfold slD at q
  split at q
  · obtain ⟨p1, vs, f, rfl, e1, r1, n1, k1⟩ := ef.1 _ rfl
    obtain ⟨f', a, b, c⟩ := cut_rep lv hv r1
    have q : Post _ _ _ _ _ _ _ _ _ _ _ _ _ := q
    refine .inr ⟨p1, vs, rfl, SqT.of e1, fun z => ?_, fun z p hp => ?_⟩
    · refine q.fin g x3 Ex.rfl' (fp := f) ?_ n1 k1
      rw [Rep]
      refine ⟨p1, vs, rfl, e1, ?_⟩
      have : cut ‹List D› lv hv = ‹List D› := by
        have l1 := r1.length
        unfold cut
        rw [l1, show six vs.length 0 lv = 0 from z.1, show six vs.length vs.length hv = vs.length from z.2, List.drop_zero, Nat.sub_zero, ← l1, List.take_length]
      rw [this]
      exact r1
    · exact q.fin g x3 (ex_upd hp) (tup_new a x3.pl hp) (c n1) fun y hy => k1 y (b y hy)
  · obtain ⟨p1, vs, f, rfl, e1, _, r1, n1, k1⟩ := ef.2 _ _ rfl
    obtain ⟨f', a, b, c⟩ := cut_rep lv hv r1
    have q : Post _ _ _ _ _ _ _ _ _ _ _ _ _ := q
    refine .inl ⟨p1, vs, rfl, SqL.of e1, fun p hp => ?_⟩
    refine q.fin g x3 (ex_upd hp) (lst_new a x3.pl hp x3.gs) (fp_new a hp (c n1)) fun y hy => ?_
    rcases List.mem_cons.mp hy with rfl | hy
    · exact grow_none g x3.pl hp
    · exact k1 y (b y hy)
  · exact q.elim
/-! ### fields -/
theorem se_top (g : Gd C Γ Gs k X) {m : ME} {e : Expr} (ha : SE C Γ k X .v m e) (hb : attributeBase e "top" X.env (eval e X.env) = eval e X.env) : SE C Γ k X p (.top m) (.Attribute e "top" pos) := by
  obtain ⟨t, a1, a2⟩ := ha
  refine ⟨_, pe_fld a1 hb, fun p0 H0 G0 H G s env σ Q x h => ?_⟩
  rw [ev] at h
  refine a2 p0 H0 G0 H G s env σ _ x (W_mono (W_bind.mp h) fun d s1 q H1 G1 v fp g1 x1 r1 _ => ?_)
  unfold numD at q
  split at q
  · obtain ⟨p1, rfl, dx, fs, e1, e2⟩ := rat_of r1
    exact ⟨p1, C, dx, fs, _, rfl, e1, g.wd.cls, g.wd.ntop, e2.1, Post.flat (show Post _ _ _ _ _ _ _ _ _ _ _ _ _ from q) g1 x1 int_rep⟩
  · exact q.elim
theorem se_bot (g : Gd C Γ Gs k X) {m : ME} {e : Expr} (ha : SE C Γ k X .v m e) (hb : attributeBase e "bottom" X.env (eval e X.env) = eval e X.env) : SE C Γ k X p (.bot m) (.Attribute e "bottom" pos) := by
  obtain ⟨t, a1, a2⟩ := ha
  refine ⟨_, pe_fld a1 hb, fun p0 H0 G0 H G s env σ Q x h => ?_⟩
  rw [ev] at h
  refine a2 p0 H0 G0 H G s env σ _ x (W_mono (W_bind.mp h) fun d s1 q H1 G1 v fp g1 x1 r1 _ => ?_)
  unfold denD at q
  split at q
  · obtain ⟨p1, rfl, dx, fs, e1, e2⟩ := rat_of r1
    exact ⟨p1, C, dx, fs, _, rfl, e1, g.wd.cls, g.wd.nbot, e2.2, Post.flat (show Post _ _ _ _ _ _ _ _ _ _ _ _ _ from q) g1 x1 int_rep⟩
  · exact q.elim
/-! ### argument lists, displays -/
theorem sa_nil {st : Bool} {m : En → M (List D)} (hm : ∀ env, m env = pure []) : SA C k X st m [] := ⟨_, pa_nil, fun p0 H0 G0 H G s env σ Q x h => by
  rw [hm] at h
  exact (show PostL _ _ _ _ _ _ _ _ _ _ _ _ _ from h) H G [] [] Grow.rfl' x Reps.nil fun _ => ⟨.nil, by simp⟩⟩
theorem sa_cons {st : Bool} {pa : Md} {m1 : ME} {m2 : En → M (List D)} {e : Expr} {es : List Expr} (ha : SE C Γ k X pa m1 e) (hb : SA C k X st m2 es) (hst : st = true → strict pa m1 = true) (hs : starEach (e :: es) X.env = (false, eval e X.env) :: starEach es X.env) :
    SA C k X st (fun env => do let d ← ev (callF Γ k) env pa m1; let ds ← m2 env; pure (d :: ds)) (e :: es) := by
  obtain ⟨t, a1, a2⟩ := ha
  obtain ⟨u, b1, b2⟩ := hb
  refine ⟨_, pa_cons a1 b1 hs, fun p0 H0 G0 H G s env σ Q x h => ?_⟩
  refine a2 p0 H0 G0 H G s env σ _ x (W_mono (W_bind.mp h) fun d s1 q H1 G1 v fp g1 x1 r1 z1 => ?_)
  refine b2 p0 H0 G0 H1 G1 s1 env σ _ x1 (W_mono (W_bind.mp q) fun ds s2 q H2 G2 vs fq g2 x2 r2 z2 => ?_)
  refine (show PostL _ _ _ _ _ _ _ _ _ _ _ _ _ from q) H2 G2 (v :: vs) (fp ++ fq) (g1.trans g2) x2 (Reps.cons (r1.grow x1.pl g2) r2) fun z => ?_
  obtain ⟨n1, f1⟩ := z1 (hst z)
  obtain ⟨n2, f2⟩ := z2 z
  refine ⟨nodup_app.mpr ⟨n1, n2, fun a h1 h2 => ?_⟩, fun a ha => ?_⟩
  · obtain ⟨_, _, xs, e⟩ := r1.mem a h1
    rw [f2 a h2] at e
    cases e
  · exact (List.mem_append.mp ha).elim (f1 a) fun h => grow_none g1 x1.pl (f2 a h)
/-- .. of operands whose items may be handed on -/
def PostLB (C : Addr) (X : Cx) (p0 : Option Addr) (H0 : Hp) (G0 : GS) (H : Hp) (G : GS) (env : En) (σ : L2.St) (Q : List V → Hp → Prop) (ds : List D) (s' : Strm) : Prop :=
  ∀ H' G' vs fp, Grow p0 H G H' G' → StX X.K C p0 H0 G0 H' G' s' env σ → Reps X.K C p0 H' G' ds vs fp → (∀ (j : Nat) d v, ds[j]? = some d → vs[j]? = some v → EF X.K C p0 (fun a => H a = none) H' G' d v) → Q vs H'
def SAB (C : Addr) (k : Nat) (X : Cx) (m : En → M (List D)) (es : List Expr) : Prop := ∃ t, PA X es t ∧ ∀ (p0 : Option Addr) (H0 : Hp) (G0 : GS) (H : Hp) (G : GS) (s : Strm) (env : En) (σ : L2.St) (Q : List V → Hp → Prop), StX X.K C p0 H0 G0 H G s env σ →
  W (m env) s (PostLB C X p0 H0 G0 H G env σ Q) → t σ H Q
theorem sab_nil {m : En → M (List D)} (hm : ∀ env, m env = pure []) : SAB C k X m [] := ⟨_, pa_nil, fun p0 H0 G0 H G s env σ Q x h => by
  rw [hm] at h
  exact (show PostLB _ _ _ _ _ _ _ _ _ _ _ _ from h) H G [] [] Grow.rfl' x Reps.nil fun j d v h => by simp at h⟩
theorem sab_cons {m1 : ME} {m2 : En → M (List D)} {e : Expr} {es : List Expr} (ha : SE C Γ k X .p m1 e) (hb : SAB C k X m2 es) (hs : starEach (e :: es) X.env = (false, eval e X.env) :: starEach es X.env) :
    SAB C k X (fun env => do let d ← bw m1 (ev (callF Γ k) env .p m1); let ds ← m2 env; pure (d :: ds)) (e :: es) := by
  obtain ⟨t, a1, a2⟩ := ha.b
  obtain ⟨u, b1, b2⟩ := hb
  refine ⟨_, pa_cons a1 b1 hs, fun p0 H0 G0 H G s env σ Q x h => ?_⟩
  refine a2 p0 H0 G0 H G s env σ _ x (W_mono (W_bind.mp h) fun d s1 q H1 G1 v fp g1 x1 r1 z1 => ?_)
  refine b2 p0 H0 G0 H1 G1 s1 env σ _ x1 (W_mono (W_bind.mp q) fun ds s2 q H2 G2 vs fq g2 x2 r2 z2 => ?_)
  refine (show PostLB _ _ _ _ _ _ _ _ _ _ _ _ from q) H2 G2 (v :: vs) (fp ++ fq) (g1.trans g2) x2 (Reps.cons (r1.grow x1.pl g2) r2) fun j d' v' h1 h2 => ?_
  cases j with
  | zero =>
    cases (show some d = some d' from h1)
    cases (show some v = some v' from h2)
    exact z1.grow x1.pl g2 fun a _ z _ => z
  | succ j => exact (z2 j d' v' (by simpa using h1) (by simpa using h2)).grow (F' := fun a => H a = none) x2.pl Grow.rfl' fun a _ z _ => grow_none g1 x1.pl z
theorem evs_len : ∀ (m : MEs) {env : En} {s : Strm} {R : List D → Strm → Prop}, W (evs (callF Γ k) env m) s R → W (evs (callF Γ k) env m) s fun ds s' => ds.length = m.len ∧ R ds s'
  | .nil, env, s, R, h => by
    rw [evs] at h ⊢
    exact ⟨rfl, h⟩
  | .cons a as, env, s, R, h => by
    rw [evs] at h ⊢
    refine W_bind.mpr (W_mono (W_bind.mp h) fun d s1 q => W_bind.mpr (W_mono (evs_len as (W_bind.mp q)) fun ds s2 q => ?_))
    exact ⟨by show (d :: ds).length = as.len + 1; rw [List.length_cons, q.1], q.2⟩
theorem se_tup {m : MEs} {es : List Expr} {x1 : Nat} (ha : SA C k X true (fun env => evs (callF Γ k) env m) es) (hl : m.len ≤ LIM) : SE C Γ k X p (.tup m) (.Tuple es x1 pos) := by
  obtain ⟨t, a1, a2⟩ := ha
  refine ⟨_, pe_tup a1, fun p0 H0 G0 H G s env σ Q x h => ?_⟩
  rw [ev] at h
  refine a2 p0 H0 G0 H G s env σ _ x (W_mono (evs_len m (W_bind.mp h)) fun ds s1 q H1 G1 vs fp g1 x1 r1 z1 => ?_)
  obtain ⟨n, f⟩ := z1 rfl
  refine ⟨by rw [← r1.length, q.1]; exact lim_size hl, fun p hp => ?_⟩
  exact (show Post _ _ _ _ _ _ _ _ _ _ _ _ _ from q.2).fin g1 x1 (ex_upd hp) (tup_new r1 x1.pl hp) n f
theorem se_lst {m : MEs} {es : List Expr} (ha : SA C k X true (fun env => evs (callF Γ k) env m) es) (hl : m.len ≤ LIM) : SE C Γ k X p (.lst m) (.List es pos) := by
  obtain ⟨t, a1, a2⟩ := ha
  refine ⟨_, pe_lst a1, fun p0 H0 G0 H G s env σ Q x h => ?_⟩
  rw [ev] at h
  refine a2 p0 H0 G0 H G s env σ _ x (W_mono (evs_len m (W_bind.mp h)) fun ds s1 q H1 G1 vs fp g1 x1 r1 z1 => ?_)
  obtain ⟨n, f⟩ := z1 rfl
  refine ⟨by rw [← r1.length, q.1]; exact lim_size hl, fun p hp => ?_⟩
  refine (show Post _ _ _ _ _ _ _ _ _ _ _ _ _ from q.2).fin g1 x1 (ex_upd hp) (lst_new r1 x1.pl hp x1.gs) (fp_new r1 hp n) fun a ha => ?_
  rcases List.mem_cons.mp ha with rfl | ha
  · exact grow_none g1 x1.pl hp
  · exact f a ha
/-! ### calls of the text's defs -/
mutual
/-- what may be said of a value behind a call: H was the heap at the call, Gc what the def held frozen, G what the caller does -/
theorem Rep.back {K : PySem.W.Frag} {Gc Ge : GS} {sh : Bool} (hn : ∀ p o, some p ≠ p0 → Ge p → H p = some o → Gc p) (gs : ∀ p, G p → ∃ o, H p = some o) (hs : sh = false → ∀ p, Gc p → G p) :
    ∀ {d : D} {v : V} {f : List Addr}, Rep K C p0 H' Ge d v f → (∀ a ∈ f, H a = none) → (sh = true → d.noShr = true) → Rep K C p0 H' (fun a => G a ∨ (H a = none ∧ Ge a)) d v f
  | .non, _, _, r, _, _ => by unfold Rep at r ⊢; exact r
  | .bl _, _, _, r, _, _ => by unfold Rep at r ⊢; exact r
  | .int _, _, _, r, _, _ => by unfold Rep at r ⊢; exact r
  | .str _, _, _, r, _, _ => by unfold Rep at r ⊢; exact r
  | .rat q, _, _, r, _, _ => by unfold Rep at r ⊢; exact r
  | .tup ds, _, _, r, m, n => by
    unfold Rep at r ⊢
    obtain ⟨p, vs, e, q1, q2⟩ := r
    exact ⟨p, vs, e, q1, Reps.back hn gs hs q2 m n⟩
  | .lst o ds, _, _, r, m, n => by
    unfold Rep at r ⊢
    obtain ⟨p, vs, f, e, q1, np, q2, q3⟩ := r
    have n' : sh = true → (o && D.noShrs ds) = true := n
    rcases q3 with ⟨a, b, c⟩ | ⟨a, b, c⟩
    · rw [c] at m
      refine ⟨p, vs, f, e, q1, np, Reps.back hn gs hs q2 (fun x hx => m x (List.mem_cons_of_mem _ hx)) fun z => (Bool.and_eq_true_iff.mp (n' z)).2, .inl ⟨a, fun z => ?_, c⟩⟩
      rcases z with z | z
      · obtain ⟨o', z⟩ := gs p z
        rw [m p List.mem_cons_self] at z
        cases z
      · exact b z.2
    · refine ⟨p, vs, f, e, q1, np, Reps.back hn gs hs q2 (by rw [c.1]; simp) fun z => (Bool.and_eq_true_iff.mp (n' z)).2, .inr ⟨a, ?_, c⟩⟩
      cases q : H p with
      | none => exact .inr ⟨rfl, b⟩
      | some o' =>
        refine .inl (hs ?_ p (hn p o' np b q))
        cases sh with
        | false => rfl
        | true =>
          have z := (Bool.and_eq_true_iff.mp (n' rfl)).1
          rw [a] at z
          cases z
  | .strm, _, _, r, _, _ => by unfold Rep at r ⊢; exact r
  | .scr ns, _, _, r, _, _ => by unfold Rep at r ⊢; exact r
theorem Reps.back {K : PySem.W.Frag} {Gc Ge : GS} {sh : Bool} (hn : ∀ p o, some p ≠ p0 → Ge p → H p = some o → Gc p) (gs : ∀ p, G p → ∃ o, H p = some o) (hs : sh = false → ∀ p, Gc p → G p) :
    ∀ {ds : List D} {vs : List V} {f : List Addr}, Reps K C p0 H' Ge ds vs f → (∀ a ∈ f, H a = none) → (sh = true → D.noShrs ds = true) → Reps K C p0 H' (fun a => G a ∨ (H a = none ∧ Ge a)) ds vs f
  | [], _, _, r, _, _ => by unfold Reps at r ⊢; exact r
  | d :: ds, _, _, r, m, n => by
    unfold Reps at r ⊢
    obtain ⟨v, r', f, g', e1, e2, a, b⟩ := r
    rw [e2] at m
    have n' : sh = true → (d.noShr && D.noShrs ds) = true := n
    exact ⟨v, r', f, g', e1, e2, Rep.back hn gs hs a (fun x hx => m x (List.mem_append_left _ hx)) fun z => (Bool.and_eq_true_iff.mp (n' z)).1, Reps.back hn gs hs b (fun x hx => m x (List.mem_append_right _ hx)) fun z => (Bool.and_eq_true_iff.mp (n' z)).2⟩
end
theorem strips_len : ∀ ds : List D, (D.strips ds).length = ds.length
  | [] => by unfold D.strips; rfl
  | d :: ds => by unfold D.strips; rw [List.length_cons, List.length_cons, strips_len ds]
theorem callF_md {f : String} {ds : List D} {R : D → Strm → Prop} (h : W (callF Γ k f ds) s R) : ∃ md, Γ f = some md ∧ ds.length = md.np := by
  cases k with
  | zero => exact h.elim
  | succ k =>
    unfold callF at h
    cases e : Γ f with
    | none => rw [e] at h; exact h.elim
    | some md =>
      rw [e] at h
      exact ⟨md, rfl, (W_guard.mp (W_bind.mp h)).1⟩
/-- the state behind a call -/
theorem StX.call {Gc Ge : GS} {s' : Strm} (x : StX X.K C p0 H0 G0 H1 G1 s env σ) (g : Grow p0 H1 Gc H' Ge) (st : StAt p0 H' Ge s') (gs : ∀ p, Ge p → some p ≠ p0 ∧ ∃ o, H' p = some o) :
    Grow p0 H1 G1 H' (fun a => G1 a ∨ (H1 a = none ∧ Ge a)) ∧ StX X.K C p0 H0 G0 H' (fun a => G1 a ∨ (H1 a = none ∧ Ge a)) s' env σ := by
  have gr : Grow p0 H1 G1 H' (fun a => G1 a ∨ (H1 a = none ∧ Ge a)) := ⟨g.keep, fun p h => .inl h, fun p o _ h e => h.elim id fun z => absurd (z.1.symm.trans e) (by simp), g.hd⟩
  refine ⟨gr, ⟨x.grow.trans gr, fun p hp => ?_, fun p hp => ?_, ?_⟩⟩
  · obtain ⟨pc, a1, a2, a3, a4, a5⟩ := x.strm p hp
    obtain ⟨pc', b1, b2, b3, b4, b5⟩ := st p hp
    obtain ⟨ys, c⟩ := g.hd p _ _ hp a1
    have c' := b1.symm.trans c
    injection c' with c'
    injection c' with c'
    injection c' with c1 c2
    injection c1 with c1
    subst c1
    exact ⟨pc', b1, b2, b3, .inl a4, b5⟩
  · rcases hp with hp | hp
    · obtain ⟨a, o, b⟩ := x.gs p hp
      exact ⟨a, o, g.keep _ _ a b⟩
    · exact gs p hp.2
  · obtain ⟨fp, a, b, c⟩ := x.env
    exact ⟨fp, a.grow x.pl gr, b, c⟩
theorem evas_strips {m : MEs} : True := trivial
theorem call_sem {f : String} {md : MDef} (hf : Γ f = some md) {ds : List D} {vs : List V} {s1 : Strm} {fq : List Addr} (x1 : StX X.K C p0 H0 G0 H1 G1 s1 env σ) (g1 : Grow p0 H G H1 G1) (r1 : Reps X.K C p0 H1 G1 ds vs fq)
    (h : W (callF Γ k f (D.strips ds)) s1 fun d s' => W (do guardM (d.noShr = true ∨ D.noOwns ds = true); pure d : M D) s' (Post C X p0 st H0 G0 H G env σ Q)) : spEv X.K C Γ k f md.np vs H1 Q E0 := by
  obtain ⟨md', e1, e2⟩ := callF_md h
  rw [hf] at e1
  cases e1
  rw [strips_len] at e2
  have lend := Reps.lend (G1 := fun a => G1 a ∨ a ∈ fq) (fun _ z => .inl z) r1 fun a ha => .inr ha
  refine ⟨by rw [← r1.length]; exact e2, p0, s1, fun a => G1 a ∨ a ∈ fq, D.strips ds, fun p hp => ?_, fun p hp => ?_, lend, W_mono h fun d s' q H' Ge v fp g st gs rd n fr => ?_⟩
  · obtain ⟨pc, a1, a2, a3, a4, a5⟩ := x1.strm p hp
    exact ⟨pc, a1, a2, a3, .inl a4, a5⟩
  · rcases hp with hp | hp
    · exact x1.gs p hp
    · obtain ⟨_, a, xs, b⟩ := r1.mem p hp
      exact ⟨a, _, b⟩
  · obtain ⟨c, q⟩ := W_guard.mp (W_bind.mp q)
    obtain ⟨gr, x2⟩ := x1.call g st gs
    have rd' : Rep X.K C p0 H' (fun a => G1 a ∨ (H1 a = none ∧ Ge a)) d v fp := by
      refine Rep.back (sh := d.noShr) (Gc := fun a => G1 a ∨ a ∈ fq) (fun p o a b e => g.new p o a b e) (fun p z => (x1.gs p z).2) (fun z p hp => ?_) rd fr fun z => z
      rcases c with c | c
      · rw [c] at z; cases z
      · rcases hp with hp | hp
        · exact hp
        · rw [r1.noOwn c] at hp
          exact absurd hp (by simp)
    exact (show Post _ _ _ _ _ _ _ _ _ _ _ _ _ from q) H' _ v fp (g1.trans gr) x2 rd' fun _ => ⟨n, fun a ha => grow_none g1 x1.pl (fr a ha)⟩
theorem se_call (g : Gd C Γ Gs k X) {f : String} {md : MDef} (hf : Γ f = some md) {m : MEs} {e : Expr} {es : List Expr} {p1 : Pos} (ha : SA C k X false (fun env => evas (callF Γ k) env m) (e :: es)) (hg : Gl X (Str.ofString f)) (hd : (Str.ofString f == ("__debug__" : Str)) = false)
    (hs : starEach (e :: es) X.env = (false, eval e X.env) :: starEach es X.env) (hpl : (backTo pos (starEach es X.env)).any (·.1) = false) : SE C Γ k X p (.call f m) (.Call (.Name (Str.ofString f) p1) (e :: es) [] pos) := by
  obtain ⟨t, a1, a2⟩ := ha
  obtain ⟨fa, fd, ps, F, hm, kp, hb⟩ := g.wd.fn f md hf
  refine ⟨_, pe_call F g.room hg hm kp hb .nil pass0 a1 hd hs hpl, fun p0 H0 G0 H G s env σ Q x h => ?_⟩
  rw [ev] at h
  refine a2 p0 H0 G0 H G s env σ _ x (W_mono (W_bind.mp h) fun ds s1 q H1 G1 vs fp g1 x1 r1 _ => ?_)
  show spEv X.K C Γ k f md.np (vs ++ []) H1 Q E0
  rw [List.append_nil]
  exact call_sem hf x1 g1 r1 (W_bind.mp q)
theorem se_call0 (g : Gd C Γ Gs k X) {f : String} {md : MDef} (hf : Γ f = some md) {p1 : Pos} (hg : Gl X (Str.ofString f)) (hd : (Str.ofString f == ("__debug__" : Str)) = false) : SE C Γ k X p (.call f .nil) (.Call (.Name (Str.ofString f) p1) [] [] pos) := by
  obtain ⟨fa, fd, ps, F, hm, kp, hb⟩ := g.wd.fn f md hf
  refine ⟨_, pe_call0 F g.room hg hm kp hb .nil pass0 hd, fun p0 H0 G0 H G s env σ Q x h => ?_⟩
  rw [ev] at h
  exact call_sem hf x Grow.rfl' Reps.nil (W_bind.mp h)
end
end Mp

namespace Mp
open PySem PySem.Spec
open PyProof.Rows L2
def bfName : BF → Str
  | .len => "len" | .abs => "abs" | .int => "int" | .list => "list" | .tuple => "tuple" | .any => "any" | .all => "all" | .sum => "sum" | .max => "max" | .min => "min" | .repr => "repr" | .str => "str"
def rBi (K : PySem.W.Frag) : BF → List V → Hp → VK → Prop
  | .len => fun xs H Q => (∃ p ys, xs = [.ref p] ∧ (SqL K H p ys ∨ SqT K H p ys) ∧ Q (.int ys.length) H) ∨ ∃ z, xs = [.str z] ∧ z.length ≤ sizeLine ∧ Q (.int z.length) H
  | .abs => fun xs H Q => ∃ i, xs = [.int i] ∧ Q (.int (if i < 0 then -i else i)) H
  | .int => fun xs H Q => (∃ i, xs = [.int i] ∧ Q (.int i) H) ∨ ∃ k, xs = [.bl k] ∧ Q (.int (if k then 1 else 0)) H
  | .list => fun xs H Q => ∃ p ys, xs = [.ref p] ∧ (SqL K H p ys ∨ SqT K H p ys) ∧ ∀ l, H l = none → Q (.ref l) (upd H l (.lst ys))
  | .tuple => fun xs H Q => ∃ p ys, xs = [.ref p] ∧ ((SqL K H p ys ∧ ∀ l, H l = none → Q (.ref l) (upd H l (.tup ys))) ∨ (SqT K H p ys ∧ Q (.ref p) H))
  | .any => rAny K
  | .all => rAll K
  | .sum => rSum K
  | .max => fun xs H Q => ∃ i j, xs = [.int i, .int j] ∧ Q (.int (if j > i then j else i)) H
  | .min => fun xs H Q => ∃ i j, xs = [.int i, .int j] ∧ Q (.int (if j < i then j else i)) H
  | .repr => fun xs H Q => ∃ b, xs = [.bl b] ∧ Q (.str (Str.ofString (if b then "True" else "False"))) H
  | .str => fun xs H Q => ∃ i, xs = [.int i] ∧ i.natAbs.log2 < 1920 ∧ Q (.str (Str.ofString (toString i))) H
theorem callR_or {X : Cx} {f : Value} {r1 r2 : List V → Hp → VK → Prop} (h1 : CallR X f r1) (h2 : CallR X f r2) : CallR X f (fun xs H Q => r1 xs H Q ∨ r2 xs H Q) := fun pins s σ H xs us Q I r h => h.elim (h1 pins s σ H xs us Q I r) (h2 pins s σ H xs us Q I r)
theorem call_repr_bl {X : Cx} : CallR X (.builtin "repr") (fun xs H Q => ∃ b, xs = [.bl b] ∧ Q (.str (Str.ofString (if b then "True" else "False"))) H) := by
  intro pins s σ H xs us Q I r h
  obtain ⟨b, rfl, q⟩ := h
  obtain ⟨u, rfl, r1⟩ := vals1 r
  cases (show u = Value.bool b from r1)
  cases b with
  | true => exact PySem.P.repr_of_bool ⟨.str (Str.ofString "True"), H, I.tok _, ⟨s.toks, rfl⟩, q⟩
  | false => exact PySem.P.repr_of_bool ⟨.str (Str.ofString "False"), H, I.tok _, ⟨s.toks, rfl⟩, q⟩
section
variable {C : Addr} {Γ : String → Option MDef} {Gs : String → Option Int} {k : Nat} {X : Cx} {p0 : Option Addr} {H H1 H2 H' H0 : Hp} {G G1 G2 G' G0 : GS} {s s2 : Strm} {env : En} {σ : L2.St} {Q : VK} {d : D} {v : V} {fp : List Addr} {st : Bool}
variable {p : Md} {pos pos' : Pos} {j : Nat}
theorem bi_pe (g : Gd C Γ Gs k X) (b : BF) {e : Expr} {es : List Expr} {t : TA} {p1 : Pos} (hg : Gl X (bfName b)) (ha : PA X (e :: es) t) (hs : starEach (e :: es) X.env = (false, eval e X.env) :: starEach es X.env) (hpl : (backTo pos (starEach es X.env)).any (·.1) = false) :
    PE X (.Call (.Name (bfName b) p1) (e :: es) [] pos) (tCB (rBi X.K b) t) := by
  cases b with
  | len => exact pe_callB (callR_or call_len_seq call_len_str) hg (g.wd.free _ (by decide)) (by decide +kernel) ha (by decide) (by decide) hs hpl
  | abs => exact pe_callB call_abs hg (g.wd.free _ (by decide)) (by decide +kernel) ha (by decide) (by decide) hs hpl
  | int => exact pe_callTy call_int1 hg (g.wd.free _ (by decide)) (by decide +kernel) ha (by decide) (by decide) hs hpl
  | list => exact pe_callTy call_list_of hg (g.wd.free _ (by decide)) (by decide +kernel) ha (by decide) (by decide) hs hpl
  | tuple => exact pe_callTy call_tuple_of hg (g.wd.free _ (by decide)) (by decide +kernel) ha (by decide) (by decide) hs hpl
  | any => exact pe_callB (cr_any g.calm) hg (g.wd.free _ (by decide)) (by decide +kernel) ha (by decide) (by decide) hs hpl
  | all => exact pe_callB (cr_all g.calm) hg (g.wd.free _ (by decide)) (by decide +kernel) ha (by decide) (by decide) hs hpl
  | sum => exact pe_callB (cr_sum g.calm) hg (g.wd.free _ (by decide)) (by decide +kernel) ha (by decide) (by decide) hs hpl
  | max => exact pe_callB (call_max2 g.calm) hg (g.wd.free _ (by decide)) (by decide +kernel) ha (by decide) (by decide) hs hpl
  | min => exact pe_callB (call_min2 g.calm) hg (g.wd.free _ (by decide)) (by decide +kernel) ha (by decide) (by decide) hs hpl
  | repr => exact pe_callB call_repr_bl hg (g.wd.free _ (by decide)) (by decide +kernel) ha (by decide) (by decide) hs hpl
  | str => exact pe_callTy call_str_int hg (g.wd.free _ (by decide)) (by decide +kernel) ha (by decide) (by decide) hs hpl
theorem reps1 {K : PySem.W.Frag} {d : D} {vs : List V} (r : Reps K C p0 H G [d] vs fp) : ∃ v f, vs = [v] ∧ Rep K C p0 H G d v f := by
  obtain ⟨v, r', f, g, rfl, _, a, b⟩ := Reps.cons_iff.mp r
  obtain ⟨rfl, _⟩ := Reps.nil_iff.mp b
  exact ⟨v, f, rfl, a⟩
theorem reps1' {K : PySem.W.Frag} {d : D} {vs : List V} (r : Reps K C p0 H G [d] vs fp) : ∃ v, vs = [v] ∧ Rep K C p0 H G d v fp := by
  obtain ⟨v, r', f, g, rfl, rfl, a, b⟩ := Reps.cons_iff.mp r
  obtain ⟨rfl, rfl⟩ := Reps.nil_iff.mp b
  exact ⟨v, rfl, by rw [List.append_nil]; exact a⟩
theorem reps2 {K : PySem.W.Frag} {d e : D} {vs : List V} (r : Reps K C p0 H G [d, e] vs fp) : ∃ v w f g, vs = [v, w] ∧ Rep K C p0 H G d v f ∧ Rep K C p0 H G e w g := by
  obtain ⟨v, r', f, g, rfl, _, a, b⟩ := Reps.cons_iff.mp r
  obtain ⟨w, f', rfl, b'⟩ := reps1 b
  exact ⟨v, w, f, f', rfl, a, b'⟩
theorem reps_bools {K : PySem.W.Frag} : ∀ {ds : List D} {vs : List V} {f : List Addr} {bs : List Bool}, Reps K C p0 H G ds vs f → bools ds = some bs → vs = bs.map V.bl
  | [], _, _, _, r, e => by
    obtain ⟨rfl, _⟩ := Reps.nil_iff.mp r
    cases (show some [] = some _ from e)
    rfl
  | d :: ds, _, _, bs, r, e => by
    obtain ⟨v, r', f, g, rfl, _, a, b⟩ := Reps.cons_iff.mp r
    cases d with
    | bl c =>
      have e : (bools ds).map (c :: ·) = some bs := e
      cases q : bools ds with
      | none => rw [q] at e; cases e
      | some bs' =>
        rw [q] at e
        cases e
        rw [bl_of a, reps_bools b q] <;> rfl
    | _ => cases e
theorem reps_ints {K : PySem.W.Frag} : ∀ {ds : List D} {vs : List V} {f : List Addr} {bs : List Int}, Reps K C p0 H G ds vs f → intsD ds = some bs → vs = bs.map V.int
  | [], _, _, _, r, e => by
    obtain ⟨rfl, _⟩ := Reps.nil_iff.mp r
    cases (show some [] = some _ from e)
    rfl
  | d :: ds, _, _, bs, r, e => by
    obtain ⟨v, r', f, g, rfl, _, a, b⟩ := Reps.cons_iff.mp r
    cases d with
    | int c =>
      have e : (intsD ds).map (c :: ·) = some bs := e
      cases q : intsD ds with
      | none => rw [q] at e; cases e
      | some bs' =>
        rw [q] at e
        cases e
        rw [int_of a, reps_ints b q] <;> rfl
    | _ => cases e
theorem Scr.sq {K : PySem.W.Frag} {a : Addr} {ns : List Int} (h : Scr K H a ns) : SqL K H a (ns.map V.int) := h.elim (fun ⟨o, h⟩ => .inl (.inr ⟨o, h⟩)) .inr
theorem reps_of_ints {K : PySem.W.Frag} : ∀ (ns : List Int), Reps K C p0 H G (ns.map D.int) (ns.map V.int) []
  | [] => Reps.nil
  | n :: ns => (Reps.cons int_rep (reps_of_ints ns) : Reps K C p0 H G _ _ ([] ++ []))
theorem se_bi (g : Gd C Γ Gs k X) {b : BF} {m : MEs} {e : Expr} {es : List Expr} {p1 : Pos} (ha : SAB C k X (fun env => evbs (callF Γ k) env m) (e :: es)) (hg : Gl X (bfName b)) (hs : starEach (e :: es) X.env = (false, eval e X.env) :: starEach es X.env) (hpl : (backTo pos (starEach es X.env)).any (·.1) = false) :
    SE C Γ k X p (.bi b m) (.Call (.Name (bfName b) p1) (e :: es) [] pos) := by
  obtain ⟨t, a1, a2⟩ := ha
  refine ⟨_, bi_pe g b hg a1 hs hpl, fun p0 H0 G0 H G s env σ Q x h => ?_⟩
  rw [ev] at h
  refine a2 p0 H0 G0 H G s env σ _ x (W_mono (W_bind.mp h) fun ds s1 q H1 G1 vs fp g1 x1 r1 ef => ?_)
  unfold biD at q
  split at q
  · obtain ⟨v, f, rfl, r3⟩ := reps1 r1
    obtain ⟨p1, ws, f', rfl, e1, _, r2, _⟩ := lst_of r3
    exact .inl ⟨p1, ws, rfl, .inl (SqL.of e1), by rw [← r2.length]; exact Post.flat (show Post _ _ _ _ _ _ _ _ _ _ _ _ _ from q) g1 x1 int_rep⟩
  · obtain ⟨v, f, rfl, r3⟩ := reps1 r1
    obtain ⟨p1, ws, rfl, e1, r2⟩ := tup_of r3
    exact .inl ⟨p1, ws, rfl, .inr (SqT.of e1), by rw [← r2.length]; exact Post.flat (show Post _ _ _ _ _ _ _ _ _ _ _ _ _ from q) g1 x1 int_rep⟩
  · obtain ⟨v, f, rfl, r3⟩ := reps1 r1
    rw [int_of r3]
    exact ⟨_, rfl, Post.flat (show Post _ _ _ _ _ _ _ _ _ _ _ _ _ from q) g1 x1 int_rep⟩
  · obtain ⟨v, f, rfl, r3⟩ := reps1 r1
    rw [int_of r3]
    exact .inl ⟨_, rfl, Post.flat (show Post _ _ _ _ _ _ _ _ _ _ _ _ _ from q) g1 x1 int_rep⟩
  · obtain ⟨v, f, rfl, r3⟩ := reps1 r1
    rw [bl_of r3]
    exact .inr ⟨_, rfl, Post.flat (show Post _ _ _ _ _ _ _ _ _ _ _ _ _ from q) g1 x1 int_rep⟩
  · obtain ⟨v, f, rfl, r3⟩ := reps1 r1
    rw [Rep] at r3
    obtain ⟨⟨p1, rfl, sc⟩, _⟩ := r3
    refine ⟨p1, _, rfl, .inl sc.sq, fun l hl => ?_⟩
    refine (show Post _ _ _ _ _ _ _ _ _ _ _ _ _ from q).fin g1 x1 (ex_upd hl) (lst_new (reps_of_ints _) x1.pl hl x1.gs) (by simp) fun y hy => ?_
    have : y = l := by simpa using hy
    subst this
    exact grow_none g1 x1.pl hl
  · obtain ⟨v, f, rfl, r3⟩ := reps1 r1
    obtain ⟨p1, ws, f', rfl, e1, _, r2, n2, k2⟩ := (ef 0 _ v rfl rfl).2 _ _ rfl
    refine ⟨p1, ws, rfl, .inl (SqL.of e1), fun l hl => ?_⟩
    refine (show Post _ _ _ _ _ _ _ _ _ _ _ _ _ from q).fin g1 x1 (ex_upd hl) (lst_new r2 x1.pl hl x1.gs) (fp_new r2 hl n2) fun y hy => ?_
    rcases List.mem_cons.mp hy with rfl | hy
    · exact grow_none g1 x1.pl hl
    · exact k2 y hy
  · obtain ⟨v, f, rfl, r3⟩ := reps1 r1
    obtain ⟨p1, ws, f', rfl, e1, r2, n2, k2⟩ := (ef 0 _ v rfl rfl).1 _ rfl
    refine ⟨p1, ws, rfl, .inr (SqT.of e1), fun l hl => ?_⟩
    refine (show Post _ _ _ _ _ _ _ _ _ _ _ _ _ from q).fin g1 x1 (ex_upd hl) (lst_new r2 x1.pl hl x1.gs) (fp_new r2 hl n2) fun y hy => ?_
    rcases List.mem_cons.mp hy with rfl | hy
    · exact grow_none g1 x1.pl hl
    · exact k2 y hy
  · obtain ⟨v, f, rfl, r3⟩ := reps1 r1
    obtain ⟨p1, ws, f', rfl, e1, _, r2, n2, k2⟩ := (ef 0 _ v rfl rfl).2 _ _ rfl
    exact ⟨p1, ws, rfl, .inl ⟨SqL.of e1, fun l hl => (show Post _ _ _ _ _ _ _ _ _ _ _ _ _ from q).fin g1 x1 (ex_upd hl) (tup_new r2 x1.pl hl) n2 k2⟩⟩
  · obtain ⟨v, f, rfl, r3⟩ := reps1 r1
    obtain ⟨p1, ws, f', rfl, e1, r2, n2, k2⟩ := (ef 0 _ v rfl rfl).1 _ rfl
    refine ⟨p1, ws, rfl, .inr ⟨SqT.of e1, (show Post _ _ _ _ _ _ _ _ _ _ _ _ _ from q).fin g1 x1 Ex.rfl' (fp := f') ?_ n2 k2⟩⟩
    rw [Rep]
    exact ⟨p1, ws, rfl, e1, r2⟩
  · obtain ⟨v, f, rfl, r3⟩ := reps1 r1
    obtain ⟨p1, ws, f', rfl, e1, _, r2, _⟩ := lst_of r3
    obtain ⟨bs, eb, q⟩ := W_ofO.mp (W_bind.mp q)
    have := reps_bools r2 eb
    subst this
    exact ⟨p1, bs, rfl, SqL.of e1, Post.flat (show Post _ _ _ _ _ _ _ _ _ _ _ _ _ from q) g1 x1 bl_rep⟩
  · obtain ⟨v, f, rfl, r3⟩ := reps1 r1
    obtain ⟨p1, ws, f', rfl, e1, _, r2, _⟩ := lst_of r3
    obtain ⟨bs, eb, q⟩ := W_ofO.mp (W_bind.mp q)
    have := reps_bools r2 eb
    subst this
    exact ⟨p1, bs, rfl, SqL.of e1, Post.flat (show Post _ _ _ _ _ _ _ _ _ _ _ _ _ from q) g1 x1 bl_rep⟩
  · obtain ⟨v, f, rfl, r3⟩ := reps1 r1
    obtain ⟨p1, ws, f', rfl, e1, _, r2, _⟩ := lst_of r3
    obtain ⟨bs, eb, q⟩ := W_ofO.mp (W_bind.mp q)
    have := reps_ints r2 eb
    subst this
    exact ⟨p1, bs, rfl, SqL.of e1, Post.flat (show Post _ _ _ _ _ _ _ _ _ _ _ _ _ from q) g1 x1 int_rep⟩
  · obtain ⟨v, w, f, f', rfl, r3, r4⟩ := reps2 r1
    rw [int_of r3, int_of r4]
    exact ⟨_, _, rfl, Post.flat (show Post _ _ _ _ _ _ _ _ _ _ _ _ _ from q) g1 x1 int_rep⟩
  · obtain ⟨v, w, f, f', rfl, r3, r4⟩ := reps2 r1
    rw [int_of r3, int_of r4]
    exact ⟨_, _, rfl, Post.flat (show Post _ _ _ _ _ _ _ _ _ _ _ _ _ from q) g1 x1 int_rep⟩
  · obtain ⟨v, f, rfl, r3⟩ := reps1 r1
    rw [bl_of r3]
    exact ⟨_, rfl, Post.flat (show Post _ _ _ _ _ _ _ _ _ _ _ _ _ from q) g1 x1 str_rep⟩
  · obtain ⟨v, f, rfl, r3⟩ := reps1 r1
    rw [int_of r3]
    obtain ⟨c, q⟩ := W_guard.mp (W_bind.mp q)
    exact ⟨_, rfl, c, Post.flat (show Post _ _ _ _ _ _ _ _ _ _ _ _ _ from q) g1 x1 str_rep⟩
  · obtain ⟨v, f, rfl, r3⟩ := reps1 r1
    rw [str_of r3]
    obtain ⟨c, q⟩ := W_guard.mp (W_bind.mp q)
    exact .inr ⟨_, rfl, lim_size c, Post.flat (show Post _ _ _ _ _ _ _ _ _ _ _ _ _ from q) g1 x1 int_rep⟩
  · exact q.elim
/-! ### Ratio(..) -/
theorem se_mk (g : Gd C Γ Gs k X) {m : MEs} {e : Expr} {es : List Expr} {p1 : Pos} (ha : SA C k X true (fun env => evs (callF Γ k) env m) (e :: es)) (hg : Gl X "Ratio") (hs : starEach (e :: es) X.env = (false, eval e X.env) :: starEach es X.env) (hpl : (backTo pos (starEach es X.env)).any (·.1) = false) :
    SE C Γ k X p (.mk m) (.Call (.Name "Ratio" p1) (e :: es) [] pos) := by
  obtain ⟨t, a1, a2⟩ := ha
  refine ⟨_, g.wd.mkR X g.isX g.r e es t p1 pos a1 hg hs hpl, fun p0 H0 G0 H G s env σ Q x h => ?_⟩
  rw [ev] at h
  refine a2 p0 H0 G0 H G s env σ _ x (W_mono (W_bind.mp h) fun ds s1 q H1 G1 vs fp g1 x1 r1 _ => ?_)
  unfold mkD at q
  split at q
  · obtain ⟨v, f, rfl, r3⟩ := reps1 r1
    rw [int_of r3]
    exact ⟨[_], _, .inl ⟨rfl, rfl, fun r H' e hr => (show Post _ _ _ _ _ _ _ _ _ _ _ _ _ from q).fin g1 x1 e (rat_rep hr) .nil (by simp)⟩⟩
  · obtain ⟨v, w, f, f', rfl, r3, r4⟩ := reps2 r1
    rw [int_of r3, int_of r4]
    have q := W_ite.mp q
    rename_i n d0 _
    by_cases hd : d0 = 0
    · rw [if_pos hd] at q; exact q.elim
    · rw [if_neg hd] at q
      obtain ⟨c, q⟩ := W_guard.mp (W_bind.mp q)
      exact ⟨[], _, .inr ⟨_, rfl, hd, .inl c, fun r H' e hr => (show Post _ _ _ _ _ _ _ _ _ _ _ _ _ from q).fin g1 x1 e (rat_rep hr) .nil (by simp)⟩⟩
  · exact q.elim
theorem se_mkI (g : Gd C Γ Gs k X) {m : ME} {e1 e : Expr} {p1 : Pos} (h1 : SE C Γ k X .v (.int 1) e1) (ha : SE C Γ k X .v m e) (hg : Gl X "Ratio") (hs : starEach [e1, e] X.env = (false, eval e1 X.env) :: starEach [e] X.env) (hs2 : starEach [e] X.env = (false, eval e X.env) :: starEach [] X.env) (hpl : (backTo pos (starEach [e] X.env)).any (·.1) = false) :
    SE C Γ k X p (.mkI m) (.Call (.Name "Ratio" p1) [e1, e] [] pos) := by
  obtain ⟨t1, b1, b2⟩ := h1
  obtain ⟨t, a1, a2⟩ := ha
  refine ⟨_, g.wd.mkR X g.isX g.r e1 [e] _ p1 pos (pa_cons b1 (pa_cons a1 pa_nil hs2) hs) hg hs hpl, fun p0 H0 G0 H G s env σ Q x h => ?_⟩
  rw [ev] at h
  refine b2 p0 H0 G0 H G s env σ _ x ?_
  rw [ev]
  refine W_pure.mpr fun H1 G1 v fp g1 x1 r1 _ => ?_
  have h := W_bind.mp h
  refine a2 p0 H0 G0 H1 G1 s env σ _ x1 (W_mono h fun d s1 q H2 G2 w fp2 g2 x2 r2 _ => ?_)
  unfold mkID at q
  split at q
  · obtain ⟨hd, q⟩ := W_guard.mp (W_bind.mp q)
    rw [int_of r1, int_of r2]
    exact ⟨[], _, .inr ⟨_, rfl, hd, .inr rfl, fun r H' e hr => (show Post _ _ _ _ _ _ _ _ _ _ _ _ _ from q).fin (g1.trans g2) x2 e (rat_rep hr) .nil (by simp)⟩⟩
  · exact q.elim
/-! ### isinstance -/
def tyV' (C : Addr) : Ty → V
  | .ratio => .ref C | .tuple => .ty "tuple" | .list => .ty "list" | .int => .ty "int" | .bool => .ty "bool" | .str => .ty "str"
def tyName : Ty → Str
  | .ratio => "Ratio" | .tuple => "tuple" | .list => "list" | .int => "int" | .bool => "bool" | .str => "str"
theorem ty_pe (g : Gd C Γ Gs k X) (t : Ty) (hg : Gl X (tyName t)) : PE X (.Name (tyName t) pos) (tC (tyV' C t)) := by
  cases t with
  | ratio => exact pe_glob (v := .ref C) hg g.wd.gR rfl
  | tuple => exact pe_bltn (v := .ty "tuple") hg (g.wd.free _ (by decide)) (by decide +kernel) rfl
  | list => exact pe_bltn (v := .ty "list") hg (g.wd.free _ (by decide)) (by decide +kernel) rfl
  | int => exact pe_bltn (v := .ty "int") hg (g.wd.free _ (by decide)) (by decide +kernel) rfl
  | bool => exact pe_bltn (v := .ty "bool") hg (g.wd.free _ (by decide)) (by decide +kernel) rfl
  | str => exact pe_bltn (v := .ty "str") hg (g.wd.free _ (by decide)) (by decide +kernel) rfl
theorem is_sem (g : Gd C Γ Gs k X) (t : Ty) {a : D} {x : V} {f : List Addr} {R : Bool → Strm → Prop} (r : Rep X.K C p0 H G a x f) (h : W (isD a t) s R) : ∃ (ty u : Value) (b : Bool), ClsV (tyV' C t) u ∧ TyX X.K H x ty ∧ PySem.W.kitOne X.K ty u = some b ∧ R b s := by
  have key : ∃ (u : Value), ClsV (tyV' C t) u ∧ ∀ (n : String) (b : Bool), (∀ A, t ≠ .ratio → tyV' C t = .ty A → kitB n A = some b) → (t = .ratio → b = false ∧ n ∈ ["NoneType", "bool", "int", "str", "list", "tuple"]) → PySem.W.kitOne X.K (.type n) u = some b := by
    cases t with
    | ratio =>
      refine ⟨_, .own C, fun n b _ h2 => ?_⟩
      obtain ⟨rfl, hn⟩ := h2 rfl
      exact g.wd.isT n hn
    | _ => exact ⟨_, .ty _, fun n b h1 _ => kit_ty (h1 _ (by simp) rfl)⟩
  obtain ⟨u, hu, hk⟩ := key
  cases a with
  | non =>
    rw [non_of r]
    refine ⟨.type "NoneType", u, false, hu, .base .non, hk _ _ (fun A _ e => ?_) (fun _ => ⟨rfl, by simp⟩), ?_⟩
    · cases t <;> cases e <;> first | (rename_i z _; exact absurd rfl z) | decide +kernel
    · cases t <;> exact h
  | bl b =>
    rw [bl_of r]
    refine ⟨.type "bool", u, (t == .bool || t == .int), hu, .base (.bl b), hk _ _ (fun A _ e => ?_) (fun z => ⟨by subst z; rfl, by simp⟩), ?_⟩
    · cases t <;> cases e <;> first | (rename_i z _; exact absurd rfl z) | decide +kernel
    · cases t <;> exact h
  | int b =>
    rw [int_of r]
    refine ⟨.type "int", u, (t == .int), hu, .base (.int b), hk _ _ (fun A _ e => ?_) (fun z => ⟨by subst z; rfl, by simp⟩), ?_⟩
    · cases t <;> cases e <;> first | (rename_i z _; exact absurd rfl z) | decide +kernel
    · cases t <;> exact h
  | str b =>
    rw [str_of r]
    refine ⟨.type "str", u, (t == .str), hu, .base (.str b), hk _ _ (fun A _ e => ?_) (fun z => ⟨by subst z; rfl, by simp⟩), ?_⟩
    · cases t <;> cases e <;> first | (rename_i z _; exact absurd rfl z) | decide +kernel
    · cases t <;> exact h
  | tup b =>
    obtain ⟨p1, vs, rfl, e1, _⟩ := tup_of r
    refine ⟨.type "tuple", u, (t == .tuple), hu, .base (.tup e1), hk _ _ (fun A _ e => ?_) (fun z => ⟨by subst z; rfl, by simp⟩), ?_⟩
    · cases t <;> cases e <;> first | (rename_i z _; exact absurd rfl z) | decide +kernel
    · cases t <;> exact h
  | lst o b =>
    obtain ⟨p1, vs, f, rfl, e1, _⟩ := lst_of r
    refine ⟨.type "list", u, (t == .list), hu, .base (.lst e1), hk _ _ (fun A _ e => ?_) (fun z => ⟨by subst z; rfl, by simp⟩), ?_⟩
    · cases t <;> cases e <;> first | (rename_i z _; exact absurd rfl z) | decide +kernel
    · cases t <;> exact h
  | rat q =>
    obtain ⟨p1, rfl, dx, fs, e1, _⟩ := rat_of r
    obtain ⟨i1, i2, i3, i4⟩ := g.wd.isO
    have ty : TyX X.K H (.ref p1) (.ref C) := .base (.ins e1 g.wd.cls i1 i2 i3 i4)
    cases t with
    | ratio => exact ⟨.ref C, _, true, .own C, ty, g.wd.isC, h⟩
    | tuple => exact ⟨.ref C, _, false, .ty _, ty, g.wd.isB _ (by simp), h⟩
    | list => exact ⟨.ref C, _, false, .ty _, ty, g.wd.isB _ (by simp), h⟩
    | int => exact ⟨.ref C, _, false, .ty _, ty, g.wd.isB _ (by simp), h⟩
    | bool => exact ⟨.ref C, _, false, .ty _, ty, g.wd.isB _ (by simp), h⟩
    | str => exact ⟨.ref C, _, false, .ty _, ty, g.wd.isB _ (by simp), h⟩
  | strm => exact h.elim
  | scr ns => exact h.elim
theorem se_isi (g : Gd C Γ Gs k X) {m : ME} {t : Ty} {e : Expr} {p1 p2 : Pos} (ha : SE C Γ k X .p m e) (hg : Gl X "isinstance") (hg2 : Gl X (tyName t)) (hs : starEach (e :: [.Name (tyName t) p2]) X.env = (false, eval e X.env) :: starEach [.Name (tyName t) p2] X.env)
    (hpl : (backTo pos (starEach [.Name (tyName t) p2] X.env)).any (·.1) = false) : SE C Γ k X p (.isi m t) (.Call (.Name "isinstance" p1) [e, .Name (tyName t) p2] [] pos) := by
  obtain ⟨ta, a1, a2⟩ := ha
  refine ⟨_, pe_callB call_isi hg (g.wd.free _ (by decide)) (by decide +kernel) (pa_cons a1 (pa_cons (ty_pe g t hg2) pa_nil rfl) hs) (by decide) (by decide) hs hpl, fun p0 H0 G0 H G s env σ Q x h => ?_⟩
  rw [ev] at h
  refine a2 p0 H0 G0 H G s env σ _ x (W_mono (W_bind.mp h) fun d s1 q H1 G1 v fp g1 x1 r1 _ => ?_)
  obtain ⟨ty, u, b, h1, h2, h3, h4⟩ := is_sem g t r1 (W_bind.mp q)
  exact ⟨v, _, ty, u, b, rfl, h1, h2, h3, Post.flat (show Post _ _ _ _ _ _ _ _ _ _ _ _ _ from h4) g1 x1 bl_rep⟩
end
end Mp

namespace Mp
open PySem PySem.Spec
open PyProof.Rows L2
section
variable {C : Addr} {Γ : String → Option MDef} {Gs : String → Option Int} {k : Nat} {X : Cx} {p0 : Option Addr} {H H1 H2 H' H0 : Hp} {G G1 G2 G' G0 : GS} {s s2 s' : Strm} {env : En} {σ : L2.St} {Q : VK} {d : D} {v : V} {fp : List Addr} {st : Bool}
variable {p : Md} {pos pos' : Pos} {j : Nat}
/-! ### targets -/
def gNs : List Nat → TGs
  | [] => gNil
  | i :: is => gCons (gName i) (gNs is)
def gT (K : PySem.W.Frag) : Tg → TG
  | .nm i => gName i
  | .tup is => fun v σ H Q => gTup K is.length (gNs is) v σ H Q ∨ gUnl K is.length (gNs is) v σ H Q
/-- the environment beside values that nothing else owns -/
def Beside (K : PySem.W.Frag) (C : Addr) (p0 : Option Addr) (H0 : Hp) (H : Hp) (G : GS) (env : En) (σ : L2.St) (ds : List D) (vs : List V) : Prop := ∃ fp fq, RepE K C p0 H G env σ fp ∧ Reps K C p0 H G ds vs fq ∧ (fp ++ fq).Nodup ∧ ∀ a ∈ fp ++ fq, H0 a = none
theorem StX.beside {ds : List D} {vs : List V} {fq : List Addr} (x : StX X.K C p0 H0 G0 H G s env σ) (g : Grow p0 H G H' G') (r : Reps X.K C p0 H' G' ds vs fq) (n : fq.Nodup) (f : ∀ a ∈ fq, H a = none) : Beside X.K C p0 H0 H' G' env σ ds vs := by
  obtain ⟨fp, a, b, c⟩ := x.env
  refine ⟨fp, fq, a.grow x.pl g, r, nodup_app.mpr ⟨b, n, fun y h1 h2 => ?_⟩, fun y hy => ?_⟩
  · obtain ⟨_, _, xs, e⟩ := a.mem y h1
    rw [f y h2] at e
    cases e
  · rcases List.mem_append.mp hy with h | h
    · exact c y h
    · exact grow_none x.grow x.pl (f y h)
theorem Beside.en {ds : List D} {vs : List V} (b : Beside X.K C p0 H0 H G env σ ds vs) : ∃ fp, RepE X.K C p0 H G env σ fp ∧ fp.Nodup ∧ ∀ a ∈ fp, H0 a = none := by
  obtain ⟨fp, fq, a, _, n, f⟩ := b
  exact ⟨fp, a, (nodup_app.mp n).1, fun y hy => f y (List.mem_append_left _ hy)⟩
theorem StX.envs {env' : En} {σ' : L2.St} (x : StX X.K C p0 H0 G0 H G s env σ) (e : ∃ fp, RepE X.K C p0 H G env' σ' fp ∧ fp.Nodup ∧ ∀ a ∈ fp, H0 a = none) : StX X.K C p0 H0 G0 H G s env' σ' := ⟨x.grow, x.strm, x.gs, e⟩
theorem sets_sem : ∀ (is : List Nat) {ds : List D} {vs : List V} {env : En} {σ : L2.St} {R : En → Strm → Prop} {Q : L2.St → Hp → Prop}, Beside X.K C p0 H0 H G env σ ds vs → W (setsE is ds env) s R →
    (∀ env' σ', R env' s → (∃ fp, RepE X.K C p0 H G env' σ' fp ∧ fp.Nodup ∧ ∀ a ∈ fp, H0 a = none) → Q σ' H) → gNs is vs σ H Q
  | [], [], vs, env, σ, R, Q, b, h, q => by
    obtain ⟨fp, fq, a, r, n, f⟩ := b
    obtain ⟨rfl, rfl⟩ := Reps.nil_iff.mp r
    exact ⟨rfl, q env σ h ⟨fp, a, (nodup_app.mp n).1, fun y hy => f y (List.mem_append_left _ hy)⟩⟩
  | i :: is, d :: ds, vs, env, σ, R, Q, b, h, q => by
    obtain ⟨fp, fq, a, r, n, f⟩ := b
    obtain ⟨v, r', f1, f2, rfl, rfl, r1, r2⟩ := Reps.cons_iff.mp r
    obtain ⟨n1, n2, n3⟩ := nodup_app.mp n
    obtain ⟨n4, n5, n6⟩ := nodup_app.mp n2
    obtain ⟨fr, e1, e2, e3⟩ := a.bind (i := i) n1 r1 n4 fun y h1 h2 => n3 y h2 (List.mem_append_left _ h1)
    refine ⟨v, r', rfl, sets_sem is (env := setE env i d) ⟨fr, f2, e1, r2, nodup_app.mpr ⟨e2, n5, fun y h1 h2 => ?_⟩, fun y hy => ?_⟩ h q⟩
    · rcases e3 y h1 with z | z
      · exact n6 y z h2
      · exact n3 y z (List.mem_append_right _ h2)
    · rcases List.mem_append.mp hy with z | z
      · rcases e3 y z with z | z
        · exact f y (List.mem_append_right _ (List.mem_append_left _ z))
        · exact f y (List.mem_append_left _ z)
      · exact f y (List.mem_append_right _ (List.mem_append_right _ z))
  | [], _ :: _, _, _, _, _, _, _, h, _ => h.elim
  | _ :: _, [], _, _, _, _, _, _, h, _ => h.elim
theorem setsE_len : ∀ (is : List Nat) {ds : List D} {env : En} {R : En → Strm → Prop}, W (setsE is ds env) s R → ds.length = is.length
  | [], [], _, _, _ => rfl
  | _ :: is, _ :: ds, _, _, h => by rw [List.length_cons, List.length_cons, setsE_len is h]
  | [], _ :: _, _, _, h => h.elim
  | _ :: _, [], _, _, h => h.elim
theorem tg_sem (t : Tg) {R : En → Strm → Prop} {Q : L2.St → Hp → Prop} (b : Beside X.K C p0 H0 H G env σ [d] [v]) (h : W (asgT t d env) s R)
    (q : ∀ env' σ', R env' s → (∃ fp, RepE X.K C p0 H G env' σ' fp ∧ fp.Nodup ∧ ∀ a ∈ fp, H0 a = none) → Q σ' H) : gT X.K t v σ H Q := by
  cases t with
  | nm i =>
    have := sets_sem [i] (R := R) (Q := Q) b (show W (setsE [i] [d] env) s R from h) q
    obtain ⟨v', r, e, z⟩ := this
    cases e
    exact z.2
  | tup is =>
    unfold asgT at h
    dsimp only at h
    split at h
    · obtain ⟨fp, fq, a, r, n, f⟩ := b
      obtain ⟨w, e1, r1⟩ := reps1' r
      cases e1
      obtain ⟨p1, vs, rfl, e2, r2⟩ := tup_of r1
      exact .inl ⟨p1, vs, rfl, SqT.of e2, by rw [← r2.length]; exact setsE_len is h, sets_sem is ⟨fp, fq, a, r2, n, f⟩ h q⟩
    · obtain ⟨fp, fq, a, r, n, f⟩ := b
      obtain ⟨w, e1, r1⟩ := reps1' r
      cases e1
      obtain ⟨p1, vs, g, rfl, e2, _, r2, hor⟩ := lst_of r1
      have sub : ∀ x ∈ g, x ∈ fq := fun x hx => by
        rcases hor with rfl | rfl
        · exact List.mem_cons_of_mem _ hx
        · cases hx
      have nd : (fp ++ g).Nodup := by
        obtain ⟨n1, n2, n3⟩ := nodup_app.mp n
        refine nodup_app.mpr ⟨n1, ?_, fun x hx hy => n3 x hx (sub x hy)⟩
        rcases hor with rfl | rfl
        · exact (List.nodup_cons.mp n2).2
        · exact .nil
      exact .inr ⟨p1, vs, rfl, SqL.of e2, by rw [← r2.length]; exact setsE_len is h, sets_sem is ⟨fp, g, a, r2, nd, fun x hx => f x ((List.mem_append.mp hx).elim (List.mem_append_left _) fun h => List.mem_append_right _ (sub x h))⟩ h q⟩
    · exact h.elim
/-! ### what is walked -/
/-- a heap behind statements: what was frozen, and all but lists, stands -/
structure Evo (p0 : Option Addr) (H : Hp) (G : GS) (H' : Hp) (G' : GS) : Prop where
  keep : ∀ p o, some p ≠ p0 → H p = some o → (G p ∨ ∀ xs, o ≠ .lst xs) → H' p = some o
  gs : ∀ p, G p → G' p
theorem Grow.evo (g : Grow p0 H G H' G') : Evo p0 H G H' G' := ⟨fun p o a b _ => g.keep p o a b, g.gs⟩
theorem Evo.trans (a : Evo p0 H G H1 G1) (b : Evo p0 H1 G1 H2 G2) : Evo p0 H G H2 G2 := ⟨fun p o n h z => b.keep p o n (a.keep p o n h z) (z.imp (a.gs p) id), fun p h => b.gs p (a.gs p h)⟩
mutual
theorem Rep.evo {K : PySem.W.Frag} (h : PL p0 H) (g : Evo p0 H G H' G') : ∀ {d : D} {v : V}, Rep K C p0 H G d v [] → Rep K C p0 H' G' d v []
  | .non, _, r => by unfold Rep at r ⊢; exact r
  | .bl _, _, r => by unfold Rep at r ⊢; exact r
  | .int _, _, r => by unfold Rep at r ⊢; exact r
  | .str _, _, r => by unfold Rep at r ⊢; exact r
  | .rat q, _, r => by
    unfold Rep at r ⊢
    obtain ⟨⟨p, dx, fs, e, q1, q2⟩, e2⟩ := r
    exact ⟨⟨p, dx, fs, e, g.keep _ _ (h.ne q1 fun _ z => by cases z) q1 (.inr fun _ z => by cases z), q2⟩, e2⟩
  | .tup ds, _, r => by
    unfold Rep at r ⊢
    obtain ⟨p, vs, e, q1, q2⟩ := r
    exact ⟨p, vs, e, g.keep _ _ (h.ne q1 fun _ z => by cases z) q1 (.inr fun _ z => by cases z), Reps.evo h g q2⟩
  | .lst o ds, _, r => by
    unfold Rep at r ⊢
    obtain ⟨p, vs, f, e, q1, np, q2, q3⟩ := r
    rcases q3 with ⟨a, b, c⟩ | ⟨a, b, c⟩
    · cases c
    · rw [c.1] at q2
      exact ⟨p, vs, [], e, g.keep _ _ np q1 (.inl b), np, Reps.evo h g q2, .inr ⟨a, g.gs _ b, rfl, rfl⟩⟩
  | .strm, _, r => by unfold Rep at r ⊢; exact r
  | .scr ns, _, r => by
    unfold Rep at r ⊢
    obtain ⟨⟨p, e, q⟩, e2⟩ := r
    refine ⟨⟨p, e, ?_⟩, e2⟩
    rcases q with ⟨o, q⟩ | q
    · exact .inl ⟨o, g.keep _ _ (h.ne q fun _ z => by cases z) q (.inr fun _ z => by cases z)⟩
    · exact .inr q
theorem Reps.evo {K : PySem.W.Frag} (h : PL p0 H) (g : Evo p0 H G H' G') : ∀ {ds : List D} {vs : List V}, Reps K C p0 H G ds vs [] → Reps K C p0 H' G' ds vs []
  | [], _, r => by unfold Reps at r ⊢; exact r
  | d :: ds, _, r => by
    unfold Reps at r ⊢
    obtain ⟨v, r', f, g', e1, e2, a, b⟩ := r
    obtain ⟨rfl, rfl⟩ : f = [] ∧ g' = [] := by simpa using e2.symm
    exact ⟨v, r', [], [], e1, rfl, Rep.evo h g a, Reps.evo h g b⟩
end
/-- J hands out ds, now and behind statements -/
def Yl (K : PySem.W.Frag) (C : Addr) (p0 : Option Addr) (J : It) (ds : List D) (H : Hp) (G : GS) : Prop :=
  (∀ (i : Nat) d H2 G2, ds[i]? = some d → Evo p0 H G H2 G2 → PL p0 H2 → J.go i H2 ∧ ∀ x H3, J.yld i H2 x H3 → Ex H2 H3 ∧ Rep K C p0 H3 G2 d x []) ∧ ∀ H2 G2, Evo p0 H G H2 G2 → PL p0 H2 → J.stop ds.length H2
def SI (C : Addr) (Γ : String → Option MDef) (k : Nat) (X : Cx) (tg : Expr) (m : MI) (e : Expr) : Prop := ∃ wi, PI X tg e wi ∧ ∀ (p0 : Option Addr) (H0 : Hp) (G0 : GS) (H : Hp) (G : GS) (s : Strm) (env : En) (σ : L2.St) (R : It → Hp → Prop), StX X.K C p0 H0 G0 H G s env σ →
  W (items (callF Γ k) env m) s (fun ds s' => D.noOwns ds = true ∧ ∀ H' G' J, Grow p0 H G H' G' → StX X.K C p0 H0 G0 H' G' s' env σ → Yl X.K C p0 J ds H' G' → R J H') → wi σ H R
theorem yl_list {K : PySem.W.Frag} {ds : List D} {vs : List V} {a : Addr} (pl : PL p0 H) (h : H a = some (.lst vs)) (np : some a ≠ p0) (hG : G a) (r : Reps K C p0 H G ds vs []) : Yl K C p0 (Itl K a) ds H G := by
  have inj : ∀ {H2 : Hp} {xs : List V}, H2 a = some (.lst vs) → SqL K H2 a xs → True := fun _ _ => trivial
  refine ⟨fun i d H2 G2 e g pl2 => ?_, fun H2 G2 g _ => ?_⟩
  · have h2 := g.keep a _ np h (.inl hG)
    obtain ⟨w, f, e1, e2, e3, _⟩ := r.get e
    refine ⟨⟨vs, w, SqL.of h2, e1⟩, fun x H3 y => ?_⟩
    obtain ⟨rfl, y⟩ := y
    have := y vs (SqL.of h2)
    rw [e1] at this
    cases this
    exact ⟨Ex.rfl', (r.at e e1).evo pl g⟩
  · exact ⟨vs, SqL.of (g.keep a _ np h (.inl hG)), by rw [r.length]; exact Nat.le_refl _⟩
theorem yl_tup {K : PySem.W.Frag} {ds : List D} {vs : List V} {a : Addr} (pl : PL p0 H) (h : H a = some (.tup vs)) (r : Reps K C p0 H G ds vs []) : Yl K C p0 (Itt K a) ds H G := by
  have np := pl.ne h fun _ z => by cases z
  refine ⟨fun i d H2 G2 e g pl2 => ?_, fun H2 G2 g _ => ?_⟩
  · have h2 := g.keep a _ np h (.inr fun _ z => by cases z)
    obtain ⟨w, f, e1, e2, e3, _⟩ := r.get e
    refine ⟨⟨vs, w, SqT.of h2, e1⟩, fun x H3 y => ?_⟩
    obtain ⟨rfl, y⟩ := y
    have := y vs (SqT.of h2)
    rw [e1] at this
    cases this
    exact ⟨Ex.rfl', (r.at e e1).evo pl g⟩
  · exact ⟨vs, SqT.of (g.keep a _ np h (.inr fun _ z => by cases z)), by rw [r.length]; exact Nat.le_refl _⟩
theorem yl_range {K : PySem.W.Frag} {lo : Int} {n : Nat} : Yl K C p0 (Itr lo n) (rangeD lo n) H G := by
  refine ⟨fun i d H2 G2 e g pl2 => ?_, fun H2 G2 g _ => ?_⟩
  · unfold rangeD at e
    rw [List.getElem?_map] at e
    cases q : (List.range n)[i]? with
    | none => rw [q] at e; cases e
    | some z =>
      rw [q] at e
      cases e
      obtain ⟨h1, h2⟩ := List.getElem?_eq_some_iff.mp q
      rw [List.getElem_range] at h2
      subst h2
      rw [List.length_range] at h1
      refine ⟨h1, fun x H3 y => ?_⟩
      obtain ⟨rfl, rfl⟩ := y
      exact ⟨Ex.rfl', int_rep⟩
  · show n ≤ (rangeD lo n).length
    unfold rangeD
    simp
/-- a walk over a list, a tuple, the script: which one is told by the value -/
def iSeq (K : PySem.W.Frag) (te : TE) : TI := fun σ H R => te σ H fun x H1 => ∃ a, x = .ref a ∧ ((∃ xs, SqL K H1 a xs) ∧ R (Itl K a) H1 ∨ (∃ xs, SqT K H1 a xs) ∧ R (Itt K a) H1)
theorem pi_seq {tg e : Expr} {te : TE} (he : PE X e te) : PI X tg e (iSeq X.K te) := by
  refine ⟨fun pins s σ H R I h => ?_⟩
  refine thn (he.run pins s σ H _ I h) fun v s1 ⟨x, H1, I1, r1, a, ex, q⟩ => ?_
  subst ex
  cases r1
  -- the iterator is the newest object
  have put : ∀ (o : Obj) (J : It) (tn : Nat → Heap → Prop), Turn X.prog X.w X.K tg J [s1.heap.objs.size] s1.heap.objs.size tn → tn 0 (s1.heap.push o) → R J H1 → PIE X pins σ tg R (.ref s1.heap.objs.size) { s1 with heap := s1.heap.push o } := by
    intro o J tn T t0 q
    refine ⟨_, _, tn, J, H1, rfl, I1.kept (t' := s1.toks) (fun b u z => Heap.get?_push_of_some _ z), T, t0, fun b hb => ?_, q⟩
    cases List.mem_singleton.mp hb
    exact I1.fpOk (Nat.le_refl _) I1.fresh
  rcases q with ⟨⟨xs, q1⟩, q2⟩ | ⟨⟨xs, q1⟩, q2⟩
  · obtain ⟨its, _, pl, _⟩ := I1.list q1
    exact wpAny_pyIter_list pl.isList (put _ _ _ (turn_list a _) ⟨_, Heap.get?_push_size _ rfl, rfl, rfl⟩ q2)
  · obtain ⟨its, _, pl, _⟩ := I1.tuple q1
    exact wpAny_pyIter_tuple (show Heap.IsTuple _ a its.toArray from pl) (put _ _ _ (turn_tuple a _) ⟨_, Heap.get?_push_size _ rfl, rfl, rfl⟩ q2)
/-- a value that is walked: frozen from here on -/
theorem seq_sem {R : It → Hp → Prop} {x : V} {fq : List Addr} (x1 : StX X.K C p0 H0 G0 H G s env σ) (g1 : Grow p0 H G H' G') (x2 : StX X.K C p0 H0 G0 H' G' s2 env σ) (r : Rep X.K C p0 H' G' d x fq) (n : fq.Nodup) (f : ∀ a ∈ fq, H a = none)
    (h : W (seqD d) s2 fun ds s' => s' = s2 ∧ D.noOwns ds = true ∧ ∀ G2 J, Grow p0 H G H' G2 → StX X.K C p0 H0 G0 H' G2 s2 env σ → Yl X.K C p0 J ds H' G2 → R J H') :
    ∃ a, x = .ref a ∧ ((∃ xs, SqL X.K H' a xs) ∧ R (Itl X.K a) H' ∨ (∃ xs, SqT X.K H' a xs) ∧ R (Itt X.K a) H') := by
  unfold seqD at h
  split at h
  · rename_i ns
    rw [Rep] at r
    obtain ⟨⟨a, rfl, sc⟩, _⟩ := r
    refine ⟨a, rfl, .inl ⟨⟨_, sc.sq⟩, h.2.2 G' _ g1 x2 ⟨fun i d H2 G2 e g pl2 => ?_, fun H2 G2 g _ => ?_⟩⟩⟩
    all_goals
      have sq : SqL X.K H2 a (ns.map V.int) := by
        rcases sc with ⟨o, q⟩ | q
        · exact .inl (.inr ⟨o, g.keep _ _ (x2.pl.ne q fun _ z => by cases z) q (.inr fun _ z => by cases z)⟩)
        · exact .inr q
    · have e' := e
      rw [List.getElem?_map] at e
      cases q : ns[i]? with
      | none => rw [q] at e; cases e
      | some z =>
        rw [q] at e
        cases e
        have e1 : (ns.map V.int)[i]? = some (V.int z) := by rw [List.getElem?_map, q] <;> rfl
        refine ⟨⟨_, _, sq, e1⟩, fun x H3 y => ?_⟩
        obtain ⟨rfl, y⟩ := y
        have := y _ sq
        rw [e1] at this
        cases this
        exact ⟨Ex.rfl', int_rep⟩
    · exact ⟨_, sq, by simp⟩
  · obtain ⟨a, vs, rfl, e1, r1⟩ := tup_of r
    have := r1.noOwn h.2.1
    subst this
    exact ⟨a, rfl, .inr ⟨⟨_, SqT.of e1⟩, h.2.2 G' _ g1 x2 (yl_tup x2.pl e1 r1)⟩⟩
  · obtain ⟨a, vs, f1, rfl, e1, np, r1, e5⟩ := lst_of r
    have := r1.noOwn h.2.1
    subst this
    refine ⟨a, rfl, .inl ⟨⟨_, SqL.of e1⟩, ?_⟩⟩
    rw [Rep] at r
    obtain ⟨a', vs', f2, ea, e1', _, r1', q3⟩ := r
    cases ea
    rw [e1] at e1'
    cases e1'
    rcases q3 with ⟨_, b, c⟩ | ⟨_, b, c, _⟩
    · -- a list of one's own, just made: it is frozen
      have ha : H a = none := f a (by rw [c]; exact List.mem_cons_self)
      have gr : Grow p0 H G H' (fun z => G' z ∨ z = a) := ⟨g1.keep, fun p h => .inl (g1.gs p h), fun p o np h e => h.elim (fun h => g1.new p o np h e) fun h => (by rw [h, ha] at e; cases e), g1.hd⟩
      have x3 : StX X.K C p0 H0 G0 H' (fun z => G' z ∨ z = a) s2 env σ := by
        refine ⟨x1.grow.trans gr, fun p hp => ?_, fun p hp => ?_, ?_⟩
        · obtain ⟨pc, a1, a2, a3, a4, a5⟩ := x2.strm p hp
          exact ⟨pc, a1, a2, a3, .inl a4, a5⟩
        · rcases hp with hp | hp
          · exact x2.gs p hp
          · rw [hp]; exact ⟨np, _, e1⟩
        · obtain ⟨fp, b1, b2, b3⟩ := x1.env
          exact ⟨fp, b1.grow x1.pl gr, b2, b3⟩
      exact h.2.2 _ _ gr x3 (yl_list x2.pl e1 np (.inr rfl) (Reps.more (fun _ z => .inl z) (by simp) r1))
    · exact h.2.2 G' _ g1 x2 (yl_list x2.pl e1 np b r1)
  · exact h.elim
theorem W_seqD {d : D} {s : Strm} {R : List D → Strm → Prop} (h : W (seqD d) s R) : W (seqD d) s fun ds s' => s' = s ∧ R ds s' := by
  unfold seqD at h ⊢
  split at h <;> first | exact ⟨rfl, h⟩ | exact h.elim
theorem si_seq {tg e : Expr} {m : ME} (ha : SE C Γ k X .v m e) : SI C Γ k X tg (.seq m) e := by
  obtain ⟨t, a1, a2⟩ := ha
  refine ⟨_, pi_seq a1, fun p0 H0 G0 H G s env σ R x h => ?_⟩
  rw [items] at h
  refine a2 p0 H0 G0 H G s env σ _ x (W_mono (W_bind.mp h) fun d s1 q H1 G1 v fp g1 x1 r1 z1 => ?_)
  obtain ⟨n, f⟩ := z1 rfl
  refine seq_sem x g1 x1 r1 n f (W_mono (W_seqD q) fun ds s' q => ⟨q.1, q.2.1, fun G2 J g x2 y => ?_⟩)
  obtain ⟨q0, q1, q2⟩ := q
  subst q0
  exact q2 H1 G2 J g x2 y
theorem range_noOwn {lo : Int} {n : Nat} : D.noOwns (rangeD lo n) = true := by
  unfold rangeD
  generalize List.range n = l
  induction l with
  | nil => rfl
  | cons a l ih => exact ih
theorem si_rng (g : Gd C Γ Gs k X) {tg e : Expr} {m : ME} {p1 : Pos} (ha : SE C Γ k X .v m e) (hg : Gl X "range") (hs : starEach [e] X.env = [(false, eval e X.env)]) : SI C Γ k X tg (.rng m) (.Call (.Name "range" p1) [e] [] pos) := by
  obtain ⟨t, a1, a2⟩ := ha
  refine ⟨_, pi_range1 hg (g.wd.free _ (by decide)) (pa_cons a1 pa_nil (by rw [hs] <;> rfl)) hs, fun p0 H0 G0 H G s env σ R x h => ?_⟩
  rw [items] at h
  refine a2 p0 H0 G0 H G s env σ _ x (W_mono (W_bind.mp h) fun d s1 q H1 G1 v fp g1 x1 r1 z1 => ?_)
  unfold rngD at q
  split at q
  · obtain ⟨⟨c1, c2⟩, q⟩ := W_guard.mp (W_bind.mp q)
    rw [int_of r1]
    have c' : (LIM : Int) = 1000000 := rfl
    rw [c'] at c1 c2
    exact ⟨_, rfl, by omega, by omega, q.2 H1 G1 _ g1 x1 yl_range⟩
  · exact q.elim
theorem si_rng2 (g : Gd C Γ Gs k X) {tg e e' : Expr} {m m' : ME} {p1 : Pos} (ha : SE C Γ k X .v m e) (hb : SE C Γ k X .v m' e') (hg : Gl X "range") (hs : starEach [e, e'] X.env = [(false, eval e X.env), (false, eval e' X.env)]) (hs2 : starEach [e'] X.env = [(false, eval e' X.env)]) : SI C Γ k X tg (.rng2 m m') (.Call (.Name "range" p1) [e, e'] [] pos) := by
  obtain ⟨ta, tb, a1, b1, h2⟩ := two_p ha hb
  refine ⟨_, pi_range2 hg (g.wd.free _ (by decide)) (pa_cons a1 (pa_cons b1 pa_nil (by rw [hs2] <;> rfl)) (by rw [hs, hs2])) hs hs2, fun p0 H0 G0 H G s env σ R x h => ?_⟩
  rw [items] at h
  refine h2 p0 H0 G0 H G s env σ _ x (W_mono (W_bind.mp h) fun dx s1 q => W_mono (W_bind.mp q) fun dy s2 q H2 G2 x y fa fb g x2 r1 _ r2 => ?_)
  unfold rng2D at q
  split at q
  · obtain ⟨⟨c1, c2, c3, c4⟩, q⟩ := W_guard.mp (W_bind.mp q)
    rw [int_of r1, int_of r2]
    have c' : (LIM : Int) = 1000000 := rfl
    rw [c'] at c1 c2 c3 c4
    exact ⟨_, _, rfl, ⟨by omega, by omega, by omega, by omega⟩, q.2 H2 G2 _ g x2 yl_range⟩
  · exact q.elim
end
end Mp

namespace Mp
open PySem PySem.Spec
open PyProof.Rows L2
/-! ### enumerate and zip over lists and tuples -/
def SqB (K : PySem.W.Frag) (o : Bool) (H : Hp) (a : Addr) (xs : List V) : Prop := if o then SqL K H a xs else SqT K H a xs
def ItB (o : Bool) (h : Heap) (it a : Addr) (i : Nat) : Prop := if o then h.IsListIter it a i else h.IsTupleIter it a i
def IsB (o : Bool) (h : Heap) (a : Addr) (items : Array Value) : Prop := if o then h.IsList a items else h.IsTuple a items
theorem drawsB {prog : Program} {w : World} {A : Around} (hh : A.handled = none) (o : Bool) (it a : Addr) (hne : a ≠ it) (items : Array Value) :
    Draws prog w A it [it, a] items.size (fun i v => items[i]? = some v) (fun i h => ItB o h it a i ∧ IsB o h a items) := by
  cases o
  · exact Draws.tuple hh it a hne items
  · exact Draws.list hh it a hne items
theorem sqB_inv {X : Cx} {pins : List (Addr × Obj)} {σ : L2.St} {H : Hp} {s : Shared} {a : Addr} {xs : List V} {o : Bool} (I : Inv X pins σ H s) (h : SqB X.K o H a xs) : ∃ its : List Value, Vals xs its ∧ IsB o s.heap a its.toArray := by
  cases o
  · obtain ⟨its, rv, p, _⟩ := I.tuple h
    exact ⟨its, rv, p⟩
  · obtain ⟨its, rv, p, _⟩ := I.list h
    exact ⟨its, rv, p.isList⟩
theorem sqB_inj {X : Cx} {pins : List (Addr × Obj)} {σ : L2.St} {H : Hp} {s : Shared} {a : Addr} {xs ys : List V} {o : Bool} (I : Inv X pins σ H s) (h : SqB X.K o H a xs) (h' : SqB X.K o H a ys) : xs = ys := by
  cases o
  · exact I.tuple_inj h h'
  · exact I.list_inj h h'
theorem itB_obj {o : Bool} {h : Heap} {it a : Addr} {i : Nat} (st : ItB o h it a i) : ∃ ob, h.get? it = some ob ∧ ∀ v, ob.data = .cell v → False := by
  cases o
  · obtain ⟨ob, ho, hc, hd⟩ := st
    exact ⟨ob, ho, fun v q => by rw [hd] at q; cases q⟩
  · obtain ⟨ob, ho, hc, hd⟩ := st
    exact ⟨ob, ho, fun v q => by rw [hd] at q; cases q⟩
theorem itB_at {o : Bool} {h h' : Heap} {it a : Addr} {i : Nat} (st : ItB o h it a i) (k : ∀ ob, h.get? it = some ob → h'.get? it = some ob) : ItB o h' it a i := by
  cases o
  · exact Heap.IsTupleIter.at st k
  · exact Heap.IsListIter.at st k
theorem isB_lt {o : Bool} {h : Heap} {a : Addr} {its : Array Value} (st : IsB o h a its) : a < h.objs.size := by
  cases o
  · obtain ⟨ob, ho, _⟩ := st
    exact Heap.lt_size ho
  · obtain ⟨ob, ho, _⟩ := st
    exact Heap.lt_size ho
/-! enumerate -/
theorem meets_enumerate_newT (l : Addr) (items : Array Value) :
    Meets (Builtin.«enumerate.__new__» ⟨[.type "enumerate", .ref l], []⟩) (fun _ R s => s.heap.IsTuple l items ∧
      R (.ok (.ret (.ref (s.heap.push { cls := .type "tuple_iterator", data := .fields #[.ref l, .int 0 0] }).objs.size)))
        { s with heap := (s.heap.push { cls := .type "tuple_iterator", data := .fields #[.ref l, .int 0 0] }).push { cls := .type "enumerate", data := .fields #[.none, .bool false, .ref s.heap.objs.size, rawInt 0, .none, .none] } }) :=
  .of_wp fun prog w A R s h => by
    obtain ⟨hp, g, d, tk, os⟩ := s; obtain ⟨hl, h⟩ := h
    have hsub := sub_enumerate
    have hL : Heap.IsTuple (Shared.heap ⟨hp, g, d, tk, os⟩) l items := hl
    wp_walk
    refine wpAny_stack_any fun st => wpAny_pure ?_
    split
    · rename_i c _ _ _ _ _
      cases (c == Value.type "enumerate")
      · wp_walk using wpAny_pyIter_tuple hL
        exact ⟨_, rfl, h⟩
      · wp_walk using wpAny_pyIter_tuple hL
        exact ⟨_, rfl, h⟩
    · wp_walk using wpAny_pyIter_tuple hL
      exact ⟨_, rfl, h⟩
theorem call_enumerateB {prog : Program} {w : World} {A : Around} {E : Value → Shared → Prop} {s : Shared} {o : Bool} {l : Addr} {items : Array Value} {Q : Value → Shared → Prop} (hL : IsB o s.heap l items)
    (h : ∀ h', IsEnum h' (s.heap.objs.size + 1) s.heap.objs.size 0 .none → ItB o h' s.heap.objs.size l 0 → h'.objs.size = s.heap.objs.size + 2 →
      (∀ b o, s.heap.get? b = some o → h'.get? b = some o) → Q (.ref (s.heap.objs.size + 1)) { s with heap := h' }) :
    wpAny (model prog w) A (call (.type "enumerate") [.ref l]) Q E s := by
  cases o
  · refine callType_new F.called_enumerate (by decide) (F.typeCall_enumerate_1 _) (F.newCall_enumerate_1 _) (fun obj => F.args_object_init_2 obj _) F.entry_enumerate_new
      (meets_enumerate_newT l items) ⟨hL, ?_⟩
    have hz : (s.heap.push { cls := .type "tuple_iterator", data := .fields #[.ref l, .int 0 0] }).objs.size = s.heap.objs.size + 1 := Heap.size_push ..
    show _ ∧ _
    rw [hz]
    have he : IsEnum ((s.heap.push { cls := .type "tuple_iterator", data := .fields #[.ref l, .int 0 0] }).push
        { cls := .type "enumerate", data := .fields #[.none, .bool false, .ref s.heap.objs.size, rawInt 0, .none, .none] }) (s.heap.objs.size + 1) s.heap.objs.size 0 .none := by
      have := Heap.get?_push_size (s.heap.push { cls := .type "tuple_iterator", data := .fields #[.ref l, .int 0 0] })
        (o := { cls := .type "enumerate", data := .fields #[.none, .bool false, .ref s.heap.objs.size, rawInt 0, .none, .none] }) rfl
      rw [hz] at this; exact this
    exact ⟨⟨_, he, rfl⟩, h _ he ⟨_, Heap.get?_push_of_some _ (Heap.get?_push_size _ rfl), rfl, rfl⟩ (by rw [Heap.size_push, hz]) fun b o x => Heap.get?_push_of_some _ (Heap.get?_push_of_some _ x)⟩
  · exact call_enumerate_list hL h
/-- the list or tuple at a as it stands at each turn, each item in a new pair -/
def IteB (K : PySem.W.Frag) (o : Bool) (a : Addr) : It :=
  ⟨fun i H => ∃ (xs : List V) (x : V), SqB K o H a xs ∧ xs[i]? = some x, fun i H v H' => ∃ T x, v = .ref T ∧ H T = none ∧ H' = upd H T (.tup [.int (i : Nat), x]) ∧ ∀ xs, SqB K o H a xs → xs[i]? = some x, fun i H => ∃ xs : List V, SqB K o H a xs ∧ xs.length ≤ i ∧ ∀ j, j < i → ∃ (ys : List V) (y : V), SqB K o H a ys ∧ ys[j]? = some y⟩
theorem turn_enumB {P : Program} {w : World} {K : PySem.W.Frag} {elts : List Expr} {kk : Nat} {tpos : Pos} (o : Bool) (a e it : Addr) :
    Turn P w K (.Tuple elts kk tpos) (IteB K o a) [e, it] e (fun i h => (∃ old, IsEnum h e it ((i : Nat) : Int) old) ∧ ItB o h it a i ∧ e ≠ it ∧ a ≠ it ∧ a ≠ e) where
  mem := by simp
  obj := fun i h st b hb => by
    obtain ⟨⟨old, he⟩, hi, _⟩ := st
    have e' : b = e ∨ b = it := by simpa using hb
    rcases e' with z | z
    · rw [z]; exact ⟨_, he, fun v q => nomatch q⟩
    · rw [z]; exact itB_obj hi
  keep := fun i h h' st k => let ⟨⟨old, he⟩, hi, hne⟩ := st; ⟨⟨old, k e (by simp) _ he⟩, itB_at hi fun o q => k it (by simp) o q, hne⟩
  item := by
    intro X hP hw hK hc i pins s σ H E I hf st hg
    subst hP hw hK
    obtain ⟨⟨old, he⟩, hit, hne, ha1, ha2⟩ := st
    obtain ⟨xs, x, hq, hx⟩ := hg
    obtain ⟨its, rv, p⟩ := sqB_inv I hq
    obtain ⟨u, hu, ru⟩ := rv.get hx
    have hel : e < s.heap.objs.size := Heap.lt_size he
    have hil : it < s.heap.objs.size := by obtain ⟨_, q, _⟩ := itB_obj hit; exact Heap.lt_size q
    have hlt : i < its.toArray.size := by
      have := (List.getElem?_eq_some_iff.mp hu).1
      simpa using this
    refine wpAny_pyNext_enum_itemD (drawsB (A := X.A.in1) (I.ok.hd hc) o it a ha1 its.toArray) he ⟨hit, p⟩ hlt hne (by simp; exact ⟨hne, fun z => ha2 z.symm⟩) fun x' h' tk hx' ho hst' hT hsz hk => ?_
    have ex : x' = u := by
      have h1 : its[i]? = some x' := by simpa using hx'
      rw [hu] at h1
      cases h1
      rfl
    subst ex
    refine ⟨_, rfl, wpAny_letOwnedTupleGo_enum (s := { s with heap := h', toks := tk + 1 }) ho fun h'' he' sb => ?_⟩
    have hT2 : h''.get? s.heap.objs.size = some { cls := .type "tuple", data := .seq #[.int i tk, x'] } := (sb.2 _ (Nat.ne_of_gt hel)).trans hT
    have new : ObjOk X.prog X.w (upd H s.heap.objs.size (.tup [.int (i : Nat), x])) h'' s.heap.objs.size (.tup [.int (i : Nat), x]) :=
      ⟨by show 2 ≤ sizeLine; decide, [.int i tk, x'], .cons ⟨_, rfl⟩ (.cons ru .nil), ⟨_, hT2, rfl, _, rfl⟩⟩
    have I1 : Inv X pins σ (upd H s.heap.objs.size (.tup [.int (i : Nat), x])) { s with heap := h'', toks := tk + 1 } :=
      I.turnedNew (t' := tk + 1) (ch := [e, it]) (fun b ob hb q => (sb.2 b (fun z => hb (by simp [z]))).trans (hk b ob (fun z => hb (by simp [z])) (fun z => hb (by simp [z])) q)) hf (Nat.le_refl _) new
    refine ⟨.ref s.heap.objs.size, _, I1, rfl, ⟨_, x, rfl, I.hok.fresh (Nat.le_refl _), rfl, fun ys hy => by rw [sqB_inj I hy hq]; exact hx⟩, ⟨⟨x', ?_⟩, itB_at hst'.1 fun o q => (sb.2 it (Ne.symm hne)).trans q, hne, ha1, ha2⟩, fun b hb => ?_⟩
    · have e1 : ((i + 1 : Nat) : Int) = (i : Int) + 1 := by omega
      rw [e1]; exact he'
    · have hb' : b < s.heap.objs.size := by
        have e' : b = e ∨ b = it := by simpa using hb
        rcases e' with z | z
        · rw [z]; exact hel
        · rw [z]; exact hil
      rw [upd_ne (Nat.ne_of_lt hb')]
      exact (hf b hb).1
  done := by
    intro X hP hw hK hc i pins s σ H E I hf st hg
    subst hP hw hK
    obtain ⟨⟨old, he⟩, hit, hne, ha1, ha2⟩ := st
    obtain ⟨xs, hq, hx, hgo⟩ := hg
    have hx : xs.length = i := by
      rcases Nat.lt_or_ge xs.length i with h | h
      · obtain ⟨ys, y, q1, q2⟩ := hgo _ h
        rw [sqB_inj I q1 hq] at q2
        have := (List.getElem?_eq_some_iff.mp q2).1
        omega
      · omega
    obtain ⟨its, rv, p⟩ := sqB_inv I hq
    obtain ⟨f0, f1, f2, f3, f4, f5⟩ := hf it (by simp)
    have hl := rv.length
    have hi : i = its.toArray.size := by simp; omega
    refine wpAny_pyNext_enum_endD (drawsB (A := X.A.in1) (I.ok.hd hc) o it a ha1 its.toArray) he ⟨?_, p⟩ fun h' eb => ⟨rfl, I.turned (t' := s.toks) (fun b o hb q => eb b o hb q) f0 f1 f3 f4 f5⟩
    rw [← hi]
    exact hit
  self := fun A i s Q E st h => let ⟨⟨_, he⟩, _⟩ := st; wpAny_pyIter_enum he h
def iEnumB (K : PySem.W.Frag) (ta : TA) : TI := fun σ H R => ta σ H fun vs H1 => ∃ o a xs, vs = [.ref a] ∧ SqB K o H1 a xs ∧ R (IteB K o a) H1
theorem pi_enumB {X : Cx} {e : Expr} {ta : TA} {p pos tpos : Pos} {elts : List Expr} {kk : Nat} (hg : Gl X "enumerate") (hm : X.mg "enumerate" = none) (ha : PA X [e] ta) (hs : starEach [e] X.env = [(false, eval e X.env)] := by rfl) :
    PI X (.Tuple elts kk tpos) (.Call (.Name "enumerate" p) [e] [] pos) (iEnumB X.K ta) := by
  refine ⟨fun pins s σ H R I h => ?_⟩
  refine Call_ (ld_blt I hg hm boot_enumerate (PyProof.Rows.callWith_type1 (thn (ha.run pos pins s σ H _ I h) fun us s1 ⟨vs, H1, I1, r1, q1⟩ => ?_) hs rfl))
  obtain ⟨o, a, xs, ex, hq, q⟩ := q1
  subst ex
  cases r1 with
  | cons r rr =>
    cases rr
    cases r
    obtain ⟨its, rv, p'⟩ := sqB_inv I1 hq
    have hal := isB_lt p'
    refine call_enumerateB p' fun h' he hit hsz hk => wpAny_pyIter_enum he ?_
    have I2 : Inv X pins σ H1 { s1 with heap := h' } := I1.kept (t' := s1.toks) hk
    refine ⟨s1.heap.objs.size + 1, [s1.heap.objs.size + 1, s1.heap.objs.size], _, _, H1, rfl, I2, turn_enumB o a (s1.heap.objs.size + 1) s1.heap.objs.size, ⟨⟨.none, he⟩, hit, Nat.succ_ne_self _, Nat.ne_of_lt hal, Nat.ne_of_lt (Nat.lt_succ_of_lt hal)⟩, fun b hb => ?_, q⟩
    have e' : b = s1.heap.objs.size + 1 ∨ b = s1.heap.objs.size := by simpa using hb
    have hle : s1.heap.objs.size ≤ b := by
      rcases e' with z | z
      · rw [z]; exact Nat.le_add_right _ _
      · rw [z]; exact Nat.le_refl _
    exact I1.fpOk hle (I1.hok.fresh hle)
end Mp

namespace Mp
open PySem PySem.Spec
open PyProof.Rows L2
def itN (o : Bool) : String := if o then "list_iterator" else "tuple_iterator"
abbrev zbH1 (o : Bool) (h : Heap) (l1 : Addr) : Heap := h.push { cls := .type (itN o), data := .fields #[.ref l1, .int 0 0] }
abbrev zbH2 (o o' : Bool) (h : Heap) (l1 l2 : Addr) : Heap := (zbH1 o h l1).push { cls := .type (itN o'), data := .fields #[.ref l2, .int 0 0] }
abbrev zbH3 (o o' : Bool) (h : Heap) (l1 l2 : Addr) : Heap := (zbH2 o o' h l1 l2).push { cls := .type "tuple", data := .seq #[.ref h.objs.size, .ref (zbH1 o h l1).objs.size] }
abbrev zbH4 (o o' : Bool) (h : Heap) (l1 l2 : Addr) : Heap := (zbH3 o o' h l1 l2).push { cls := .type "tuple", data := .seq #[.none, .none] }
abbrev zbH5 (o o' : Bool) (h : Heap) (l1 l2 : Addr) : Heap := (zbH4 o o' h l1 l2).push { cls := .type "zip", data := .fields #[.none, .bool false, .bool false, .ref (zbH2 o o' h l1 l2).objs.size, .ref (zbH3 o o' h l1 l2).objs.size] }
theorem meets_zipB_new (o o' : Bool) (l1 l2 : Addr) (xs ys : Array Value) :
    Meets (Builtin.«zip.__new__» ⟨[.type "zip", .ref l1, .ref l2], []⟩) (fun _ R s => IsB o s.heap l1 xs ∧ IsB o' s.heap l2 ys ∧
      R (.ok (.ret (.ref (zbH4 o o' s.heap l1 l2).objs.size))) { s with heap := zbH5 o o' s.heap l1 l2 }) :=
  .of_wp fun prog w A R s h => by
    obtain ⟨hp, g, d, tk, os⟩ := s; obtain ⟨hl1, hl2, h⟩ := h
    have hsub := sub_zip
    cases o <;> cases o'
    · have hL1 : Heap.IsTuple (Shared.heap ⟨hp, g, d, tk, os⟩) l1 xs := hl1
      have hL2 : Heap.IsTuple (Shared.heap ⟨hp.push { cls := .type "tuple_iterator", data := .fields #[.ref l1, .int 0 0] }, g, d, tk, os⟩) l2 ys := Heap.IsTuple.push hl2 _
      wp_walk using wpAny_pyIter_tuple hL1, wpAny_pyIter_tuple hL2
      exact ⟨_, rfl, h⟩
    · have hL1 : Heap.IsTuple (Shared.heap ⟨hp, g, d, tk, os⟩) l1 xs := hl1
      have hL2 : Heap.IsList (Shared.heap ⟨hp.push { cls := .type "tuple_iterator", data := .fields #[.ref l1, .int 0 0] }, g, d, tk, os⟩) l2 ys := Heap.IsList.push hl2 _
      wp_walk using wpAny_pyIter_tuple hL1, wpAny_pyIter_list hL2
      exact ⟨_, rfl, h⟩
    · have hL1 : Heap.IsList (Shared.heap ⟨hp, g, d, tk, os⟩) l1 xs := hl1
      have hL2 : Heap.IsTuple (Shared.heap ⟨hp.push { cls := .type "list_iterator", data := .fields #[.ref l1, .int 0 0] }, g, d, tk, os⟩) l2 ys := Heap.IsTuple.push hl2 _
      wp_walk using wpAny_pyIter_list hL1, wpAny_pyIter_tuple hL2
      exact ⟨_, rfl, h⟩
    · have hL1 : Heap.IsList (Shared.heap ⟨hp, g, d, tk, os⟩) l1 xs := hl1
      have hL2 : Heap.IsList (Shared.heap ⟨hp.push { cls := .type "list_iterator", data := .fields #[.ref l1, .int 0 0] }, g, d, tk, os⟩) l2 ys := Heap.IsList.push hl2 _
      wp_walk using wpAny_pyIter_list hL1, wpAny_pyIter_list hL2
      exact ⟨_, rfl, h⟩
theorem itB_new {o : Bool} {h : Heap} {it a : Addr} (g : h.get? it = some { cls := .type (itN o), data := .fields #[.ref a, .int 0 0] }) : ItB o h it a 0 := by
  cases o
  · exact ⟨_, g, rfl, rfl⟩
  · exact ⟨_, g, rfl, rfl⟩
theorem call_zipB {prog : Program} {w : World} {A : Around} {E : Value → Shared → Prop} {s : Shared} {o o' : Bool} {l1 l2 : Addr} {xs ys : Array Value} {Q : Value → Shared → Prop} (hl1 : IsB o s.heap l1 xs) (hl2 : IsB o' s.heap l2 ys)
    (h : ∀ h', IsZip h' (s.heap.objs.size + 4) (s.heap.objs.size + 2) (s.heap.objs.size + 3) .none → IsPair h' (s.heap.objs.size + 2) (.ref s.heap.objs.size) (.ref (s.heap.objs.size + 1)) →
      IsPair h' (s.heap.objs.size + 3) .none .none → ItB o h' s.heap.objs.size l1 0 → ItB o' h' (s.heap.objs.size + 1) l2 0 → h'.objs.size = s.heap.objs.size + 5 →
      (∀ c o, s.heap.get? c = some o → h'.get? c = some o) → Q (.ref (s.heap.objs.size + 4)) { s with heap := h' }) :
    wpAny (model prog w) A (call (.type "zip") [.ref l1, .ref l2]) Q E s := by
  refine callType_new F.called_zip (by decide) (F.typeCall_zip_2 _ _) (F.newCall_zip_2 _ _) (fun obj => F.args_object_init_3 obj _ _) F.entry_zip_new
    (meets_zipB_new o o' l1 l2 xs ys) ⟨hl1, hl2, ?_⟩
  have fr : ∀ o, ({ cls := .type (itN o), data := .fields #[.ref l1, .int 0 0] } : Obj).isFreed = false := fun o => rfl
  have z1 : (zbH1 o s.heap l1).objs.size = s.heap.objs.size + 1 := Heap.size_push ..
  have z2 : (zbH2 o o' s.heap l1 l2).objs.size = s.heap.objs.size + 2 := by rw [Heap.size_push, z1]
  have z3 : (zbH3 o o' s.heap l1 l2).objs.size = s.heap.objs.size + 3 := by rw [Heap.size_push, z2]
  have z4 : (zbH4 o o' s.heap l1 l2).objs.size = s.heap.objs.size + 4 := by rw [Heap.size_push, z3]
  have z5 : (zbH5 o o' s.heap l1 l2).objs.size = s.heap.objs.size + 5 := by rw [Heap.size_push, z4]
  have g5 : (zbH5 o o' s.heap l1 l2).get? (zbH4 o o' s.heap l1 l2).objs.size = some _ := Heap.get?_push_size _ rfl
  have g4 : (zbH5 o o' s.heap l1 l2).get? (zbH3 o o' s.heap l1 l2).objs.size = some _ := Heap.get?_push_of_some _ (Heap.get?_push_size _ rfl)
  have g3 : (zbH5 o o' s.heap l1 l2).get? (zbH2 o o' s.heap l1 l2).objs.size = some _ := Heap.get?_push_of_some _ (Heap.get?_push_of_some _ (Heap.get?_push_size _ rfl))
  have g2 : (zbH5 o o' s.heap l1 l2).get? (zbH1 o s.heap l1).objs.size = some _ := Heap.get?_push_of_some _ (Heap.get?_push_of_some _ (Heap.get?_push_of_some _ (Heap.get?_push_size _ rfl)))
  have g1 : (zbH5 o o' s.heap l1 l2).get? s.heap.objs.size = some _ := Heap.get?_push_of_some _ (Heap.get?_push_of_some _ (Heap.get?_push_of_some _ (Heap.get?_push_of_some _ (Heap.get?_push_size _ rfl))))
  show _ ∧ _
  rw [z2, z3, z4] at g5
  rw [z1, z2] at g3
  rw [z3] at g4
  rw [z1] at g2
  rw [z4]
  exact ⟨⟨_, g5, rfl⟩, h _ g5 g3 g4 (itB_new g1) (itB_new g2) z5 fun c o x =>
    Heap.get?_push_of_some _ (Heap.get?_push_of_some _ (Heap.get?_push_of_some _ (Heap.get?_push_of_some _ (Heap.get?_push_of_some _ x))))⟩
/-- the sequences at a and b as they stand at each turn, the items in new pairs -/
def ItzB (K : PySem.W.Frag) (o o' : Bool) (a b : Addr) : It :=
  ⟨fun i H => ∃ (xs ys : List V) (x y : V), SqB K o H a xs ∧ SqB K o' H b ys ∧ xs[i]? = some x ∧ ys[i]? = some y,
    fun i H v H' => ∃ T x y, v = .ref T ∧ H T = none ∧ H' = upd H T (.tup [x, y]) ∧ (∀ xs, SqB K o H a xs → xs[i]? = some x) ∧ ∀ ys, SqB K o' H b ys → ys[i]? = some y,
    fun i H => ∃ xs ys : List V, SqB K o H a xs ∧ SqB K o' H b ys ∧ (xs.length ≤ i ∨ ys.length ≤ i) ∧ ∀ j, j < i → (∃ (zs : List V) (z : V), SqB K o H a zs ∧ zs[j]? = some z) ∧ ∃ (zs : List V) (z : V), SqB K o' H b zs ∧ zs[j]? = some z⟩
theorem sep_of {z TI TO i1 i2 a b : Addr} (D : ZipApart z TI TO i1 i2 a b) : ZipSep2 z TI TO i1 i2 [i1, a] [i2, b] where
  TIz := D.TIz
  TOz := D.TOz
  TITO := D.TITO
  TIi1 := D.TIi1
  mem1 := by simp
  zf1 := by simp; exact ⟨D.i1z.symm, D.l1z.symm⟩
  Tf1 := by simp; exact ⟨D.TOi1, D.l1TO.symm⟩
  TIi2 := D.TIi2
  mem2 := by simp
  zf2 := by simp; exact ⟨D.i2z.symm, D.l2z.symm⟩
  Tf2 := by simp; exact ⟨D.TOi2, D.l2TO.symm⟩
  sep1_2 := by simp; exact ⟨D.i12, D.l2i1.symm⟩
  sep2_1 := by simp; exact ⟨D.i12.symm, D.l1i2.symm⟩
theorem turn_zipB {P : Program} {w : World} {K : PySem.W.Frag} {elts : List Expr} {kk : Nat} {tpos : Pos} {o o' : Bool} {a b z TI TO i1 i2 : Addr} (D : ZipApart z TI TO i1 i2 a b) :
    Turn P w K (.Tuple elts kk tpos) (ItzB K o o' a b) [z, TI, TO, i1, i2] z (fun i h => IsZip h z TI TO .none ∧ IsPair h TI (.ref i1) (.ref i2) ∧ (∃ x y, IsPair h TO x y) ∧ ItB o h i1 a i ∧ ItB o' h i2 b i) where
  mem := by simp
  obj := fun i h st c hc => by
    obtain ⟨hz, hTI, ⟨x, y, hTO⟩, h1, h2⟩ := st
    have e' : c = z ∨ c = TI ∨ c = TO ∨ c = i1 ∨ c = i2 := by simpa using hc
    rcases e' with q | q | q | q | q
    · rw [q]; exact ⟨_, hz, fun v q => nomatch q⟩
    · rw [q]; exact ⟨_, hTI, fun v q => nomatch q⟩
    · rw [q]; exact ⟨_, hTO, fun v q => nomatch q⟩
    · rw [q]; exact itB_obj h1
    · rw [q]; exact itB_obj h2
  keep := fun i h h' st k => by
    obtain ⟨hz, hTI, ⟨x, y, hTO⟩, h1, h2⟩ := st
    exact ⟨k z (by simp) _ hz, k TI (by simp) _ hTI, ⟨x, y, k TO (by simp) _ hTO⟩, itB_at h1 fun o q => k i1 (by simp) o q, itB_at h2 fun o q => k i2 (by simp) o q⟩
  item := by
    intro X hP hw hK hc i pins s σ H E I hf st hg
    subst hP hw hK
    obtain ⟨hz, hTI, ⟨x0, y0, hTO⟩, h1, h2⟩ := st
    obtain ⟨xs, ys, x, y, hqx, hqy, hx, hy⟩ := hg
    obtain ⟨its, rv, p⟩ := sqB_inv I hqx
    obtain ⟨its2, rv2, p2⟩ := sqB_inv I hqy
    obtain ⟨u, hu, ru⟩ := rv.get hx
    obtain ⟨u2, hu2, ru2⟩ := rv2.get hy
    have hzl : z < s.heap.objs.size := Heap.lt_size hz
    have hlt1 : i < its.toArray.size := by
      have := (List.getElem?_eq_some_iff.mp hu).1
      simpa using this
    have hlt2 : i < its2.toArray.size := by
      have := (List.getElem?_eq_some_iff.mp hu2).1
      simpa using this
    refine wpAny_pyNext_zipD2_item (sep_of D) (drawsB (A := X.A.in1) (I.ok.hd hc) o i1 a D.l1i1 its.toArray) (drawsB (A := X.A.in1) (I.ok.hd hc) o' i2 b D.l2i2 its2.toArray) hz hTI hTO ⟨h1, p⟩ ⟨h2, p2⟩ hlt1 hlt2 fun v1 v2 h' tk hv1 hv2 z' TO' h1' h2' hT hsz hk => ?_
    have ex : v1 = u := by
      have h1 : its[i]? = some v1 := by simpa using hv1
      rw [hu] at h1
      cases h1
      rfl
    have ey : v2 = u2 := by
      have h1 : its2[i]? = some v2 := by simpa using hv2
      rw [hu2] at h1
      cases h1
      rfl
    subst ex ey
    refine ⟨_, rfl, wpAny_letOwnedTupleGo_zip (s := { s with heap := h', toks := tk }) z' fun h'' z'' sb => ?_⟩
    have hT2 : h''.get? s.heap.objs.size = some { cls := .type "tuple", data := .seq #[v1, v2] } := (sb.2 _ (Nat.ne_of_gt hzl)).trans hT
    have new : ObjOk X.prog X.w (upd H s.heap.objs.size (.tup [x, y])) h'' s.heap.objs.size (.tup [x, y]) :=
      ⟨by show 2 ≤ sizeLine; decide, [v1, v2], .cons ru (.cons ru2 .nil), ⟨_, hT2, rfl, _, rfl⟩⟩
    have I1 : Inv X pins σ (upd H s.heap.objs.size (.tup [x, y])) { s with heap := h'', toks := tk } :=
      I.turnedNew (t' := tk) (ch := [z, TI, TO, i1, i2]) (fun c o hb q => (sb.2 c (fun q' => hb (by simp [q']))).trans (hk c o (fun q' => hb (by simp [q'])) (fun q' => hb (by simp [q'])) (fun q' => hb (by simp [q'])) (fun q' => hb (by simp [q'])) q)) hf (Nat.le_refl _) new
    refine ⟨.ref s.heap.objs.size, _, I1, rfl, ⟨_, x, y, rfl, I.hok.fresh (Nat.le_refl _), rfl, fun l hl => by rw [sqB_inj I hl hqx]; exact hx, fun l hl => by rw [sqB_inj I hl hqy]; exact hy⟩, ⟨z'', ?_, ⟨v1, v2, ?_⟩, ?_, ?_⟩, fun c hcm => ?_⟩
    · exact (sb.2 _ D.TIz).trans (hk _ _ D.TIz D.TITO D.TIi1 D.TIi2 hTI)
    · exact (sb.2 _ D.TOz).trans TO'
    · exact itB_at h1'.1 fun o q => (sb.2 _ D.i1z).trans q
    · exact itB_at h2'.1 fun o q => (sb.2 _ D.i2z).trans q
    · have hlt : c < s.heap.objs.size := by
        have e' : c = z ∨ c = TI ∨ c = TO ∨ c = i1 ∨ c = i2 := by simpa using hcm
        rcases e' with q | q | q | q | q
        · rw [q]; exact hzl
        · rw [q]; exact Heap.lt_size hTI
        · rw [q]; exact Heap.lt_size hTO
        · rw [q]; obtain ⟨_, e1, _⟩ := itB_obj h1; exact Heap.lt_size e1
        · rw [q]; obtain ⟨_, e2, _⟩ := itB_obj h2; exact Heap.lt_size e2
      rw [upd_ne (Nat.ne_of_lt hlt)]
      exact (hf c hcm).1
  done := by
    intro X hP hw hK hc i pins s σ H E I hf st hg
    subst hP hw hK
    obtain ⟨hz, hTI, ⟨x0, y0, hTO⟩, h1, h2⟩ := st
    obtain ⟨xs, ys, hqx, hqy, hend, hgo⟩ := hg
    have hend : i = min xs.length ys.length := by
      have a1 : i ≤ xs.length := by
        rcases Nat.lt_or_ge xs.length i with h | h
        · obtain ⟨⟨zs, y, q1, q2⟩, _⟩ := hgo _ h
          rw [sqB_inj I q1 hqx] at q2
          have := (List.getElem?_eq_some_iff.mp q2).1
          omega
        · omega
      have a2 : i ≤ ys.length := by
        rcases Nat.lt_or_ge ys.length i with h | h
        · obtain ⟨_, zs, y, q1, q2⟩ := hgo _ h
          rw [sqB_inj I q1 hqy] at q2
          have := (List.getElem?_eq_some_iff.mp q2).1
          omega
        · omega
      omega
    obtain ⟨its, rv, p⟩ := sqB_inv I hqx
    obtain ⟨its2, rv2, p2⟩ := sqB_inv I hqy
    have l1 : xs.length = its.toArray.size := by have := rv.length; simp; omega
    have l2 : ys.length = its2.toArray.size := by have := rv2.length; simp; omega
    exact wpAny_pyNext_zipD2_end (sep_of D) (drawsB (A := X.A.in1) (I.ok.hd hc) o i1 a D.l1i1 its.toArray) (drawsB (A := X.A.in1) (I.ok.hd hc) o' i2 b D.l2i2 its2.toArray) hz hTI hTO ⟨h1, p⟩ ⟨h2, p2⟩ (by omega) (by omega) (by omega) fun h' tk hk => ⟨rfl, I.turnedL (t' := tk) (ch := [z, TI, TO, i1, i2]) (fun c o hb q =>
      hk c o (fun q' => hb (by simp [q'])) (fun q' => hb (by simp [q'])) (fun q' => hb (by simp [q'])) (fun q' => hb (by simp [q'])) q) hf⟩
  self := fun A i s Q E st h => wpAny_pyIter_zip st.1 h
def iZipB (K : PySem.W.Frag) (ta : TA) : TI := fun σ H R => ta σ H fun vs H1 => ∃ o o' a b xs ys, vs = [.ref a, .ref b] ∧ SqB K o H1 a xs ∧ SqB K o' H1 b ys ∧ R (ItzB K o o' a b) H1
theorem pi_zipB {X : Cx} {e e2 : Expr} {ta : TA} {p pos tpos : Pos} {elts : List Expr} {kk : Nat} (hg : Gl X "zip") (hm : X.mg "zip" = none) (ha : PA X [e, e2] ta)
    (hs : starEach [e, e2] X.env = (false, eval e X.env) :: starEach [e2] X.env := by rfl) (hpl : (backTo pos (starEach [e2] X.env)).any (·.1) = false := by rfl) :
    PI X (.Tuple elts kk tpos) (.Call (.Name "zip" p) [e, e2] [] pos) (iZipB X.K ta) := by
  refine ⟨fun pins s σ H R I h => ?_⟩
  refine Call_ (ld_blt I hg hm PyProof.Rows.boot_zip (PyProof.Rows.callWith_type1 (thn (ha.run pos pins s σ H _ I h) fun us s1 ⟨vs, H1, I1, r1, q1⟩ => ?_) hs hpl))
  obtain ⟨o, o', a, b, xs, ys, ex, hqx, hqy, q⟩ := q1
  subst ex
  cases r1 with
  | cons r rr =>
    cases rr with
    | cons r' rr =>
      cases rr
      cases r
      cases r'
      have fresh5 : ∀ c, c ∈ [s1.heap.objs.size + 4, s1.heap.objs.size + 2, s1.heap.objs.size + 3, s1.heap.objs.size, s1.heap.objs.size + 1] → FpOk X pins H1 c := fun c hcm => by
        have e' : c = s1.heap.objs.size + 4 ∨ c = s1.heap.objs.size + 2 ∨ c = s1.heap.objs.size + 3 ∨ c = s1.heap.objs.size ∨ c = s1.heap.objs.size + 1 := by simpa using hcm
        have hle : s1.heap.objs.size ≤ c := by
          rcases e' with z | z | z | z | z
          · rw [z]; exact Nat.le_add_right _ _
          · rw [z]; exact Nat.le_add_right _ _
          · rw [z]; exact Nat.le_add_right _ _
          · rw [z]; exact Nat.le_refl _
          · rw [z]; exact Nat.le_add_right _ _
        exact I1.fpOk hle (I1.hok.fresh hle)
      obtain ⟨its, rv, p1⟩ := sqB_inv I1 hqx
      obtain ⟨its2, rv2, p2⟩ := sqB_inv I1 hqy
      refine call_zipB p1 p2 fun h' hz hTI hTO h1 h2 hsz hk => wpAny_pyIter_zip hz ?_
      have I2 : Inv X pins σ H1 { s1 with heap := h' } := I1.kept (t' := s1.toks) hk
      exact ⟨s1.heap.objs.size + 4, [s1.heap.objs.size + 4, s1.heap.objs.size + 2, s1.heap.objs.size + 3, s1.heap.objs.size, s1.heap.objs.size + 1], _, _, H1, rfl, I2, turn_zipB (PySem.W.ktu_apart s1.heap.objs.size a b (isB_lt p1) (isB_lt p2)), ⟨hz, hTI, ⟨_, _, hTO⟩, h1, h2⟩, fresh5, q⟩
end Mp

namespace Mp
open PySem PySem.Spec
open PyProof.Rows L2
section
variable {C : Addr} {Γ : String → Option MDef} {Gs : String → Option Int} {k : Nat} {X : Cx} {p0 : Option Addr} {H0 : Hp} {G0 : GS} {H : Hp} {G : GS} {s : Strm} {env : En} {σ : L2.St}
def Itx (K : PySem.W.Frag) (o : Bool) (a : Addr) : It := if o then Itl K a else Itt K a
theorem itx_go {K : PySem.W.Frag} {o : Bool} {a : Addr} {i : Nat} {H : Hp} : (Itx K o a).go i H ↔ ∃ (xs : List V) (x : V), SqB K o H a xs ∧ xs[i]? = some x := by
  cases o <;> exact Iff.rfl
theorem itx_yld {K : PySem.W.Frag} {o : Bool} {a : Addr} {i : Nat} {H : Hp} {x : V} (h : ∀ xs, SqB K o H a xs → xs[i]? = some x) : (Itx K o a).yld i H x H := by
  cases o <;> exact ⟨rfl, h⟩
theorem itx_stop {K : PySem.W.Frag} {o : Bool} {a : Addr} {i : Nat} {H : Hp} : (Itx K o a).stop i H ↔ ∃ xs : List V, SqB K o H a xs ∧ xs.length ≤ i := by
  cases o <;> exact Iff.rfl
theorem enum_get : ∀ (ds : List D) (n i : Nat), (enumD n ds)[i]? = ds[i]?.map fun d => D.tup [.int (n + i : Nat), d]
  | [], _, _ => rfl
  | d :: ds, n, 0 => rfl
  | d :: ds, n, i + 1 => by
    show (enumD (n + 1) ds)[i]? = _
    rw [enum_get ds (n + 1) i]
    show _ = Option.map _ ds[i]?
    have e : n + 1 + i = n + (i + 1) := by omega
    rw [e]
theorem enum_len : ∀ (ds : List D) (n : Nat), (enumD n ds).length = ds.length
  | [], _ => rfl
  | _ :: ds, n => congrArg Nat.succ (enum_len ds (n + 1))
theorem enum_noOwns : ∀ (ds : List D) (n : Nat), D.noOwns (enumD n ds) = D.noOwns ds
  | [], _ => rfl
  | d :: ds, n => by
    show (D.noOwn (.tup [.int n, d]) && D.noOwns (enumD (n + 1) ds)) = (d.noOwn && D.noOwns ds)
    rw [enum_noOwns ds (n + 1)]
    show ((true && (d.noOwn && true)) && _) = _
    simp
theorem zip_get : ∀ (as bs : List D) (i : Nat) (p : D), (zipD as bs)[i]? = some p → ∃ a b, as[i]? = some a ∧ bs[i]? = some b ∧ p = .tup [a, b]
  | [], _, _, _, h => by simp [zipD] at h
  | a :: as, [], _, _, h => by simp [zipD] at h
  | a :: as, b :: bs, 0, p, h => by
    have h : some (D.tup [a, b]) = some p := h
    cases h
    exact ⟨a, b, rfl, rfl, rfl⟩
  | a :: as, b :: bs, i + 1, p, h => zip_get as bs i p h
theorem zip_len : ∀ (as bs : List D), (zipD as bs).length = min as.length bs.length
  | [], _ => by simp [zipD]
  | a :: as, [] => by simp [zipD]
  | a :: as, b :: bs => by
    show (zipD as bs).length + 1 = _
    rw [zip_len as bs, List.length_cons, List.length_cons]
    omega
theorem zip_noOwns : ∀ (as bs : List D), D.noOwns as = true → D.noOwns bs = true → D.noOwns (zipD as bs) = true
  | [], _, _, _ => rfl
  | a :: as, [], _, _ => rfl
  | a :: as, b :: bs, h, h' => by
    have h : (a.noOwn && D.noOwns as) = true := h
    have h' : (b.noOwn && D.noOwns bs) = true := h'
    simp only [Bool.and_eq_true] at h h'
    show (D.noOwn (.tup [a, b]) && D.noOwns (zipD as bs)) = true
    rw [zip_noOwns as bs h.2 h'.2]
    show ((a.noOwn && (b.noOwn && true)) && true) = true
    rw [h.1, h'.1]
    rfl
/-- a new tuple over values that stand -/
theorem rep_pair {K : PySem.W.Frag} {T : Addr} {d e : D} {x y : V} (pl : PL p0 H) (hT : H T = none) (r : Rep K C p0 H G d x []) (r' : Rep K C p0 H G e y []) : Ex H (upd H T (.tup [x, y])) ∧ Rep K C p0 (upd H T (.tup [x, y])) G (.tup [d, e]) (.ref T) [] := by
  have ne : ∀ {p o}, H p = some o → p ≠ T := fun h z => by rw [z, hT] at h; cases h
  have ev : Evo p0 H G (upd H T (.tup [x, y])) G := ⟨fun p o _ h _ => by rw [upd_ne (ne h)]; exact h, fun _ h => h⟩
  refine ⟨fun p o h => by rw [upd_ne (ne h)]; exact h, ?_⟩
  rw [Rep]
  refine ⟨T, [x, y], rfl, by unfold upd; rw [if_pos rfl], ?_⟩
  exact Reps.cons (r.evo pl ev) (Reps.cons (r'.evo pl ev) Reps.nil)
theorem yl_enum {K : PySem.W.Frag} {o : Bool} {a : Addr} {ds : List D} (h : Yl K C p0 (Itx K o a) ds H G) : Yl K C p0 (IteB K o a) (enumD 0 ds) H G := by
  have go : ∀ (i : Nat) (H2 : Hp) (G2 : GS), i < ds.length → Evo p0 H G H2 G2 → PL p0 H2 → ∃ (xs : List V) (x : V), SqB K o H2 a xs ∧ xs[i]? = some x := fun i H2 G2 hi g pl => itx_go.mp (h.1 i ds[i] H2 G2 (by simp [hi]) g pl).1
  refine ⟨fun i d H2 G2 e g pl2 => ?_, fun H2 G2 g pl2 => ?_⟩
  · rw [enum_get] at e
    cases q : ds[i]? with
    | none => rw [q] at e; cases e
    | some d' =>
      rw [q] at e
      cases e
      obtain ⟨h1, h2⟩ := h.1 i d' H2 G2 q g pl2
      refine ⟨itx_go.mp h1, fun v H3 y => ?_⟩
      obtain ⟨T, x, rfl, hT, rfl, hx⟩ := y
      obtain ⟨_, r⟩ := h2 x H2 (itx_yld hx)
      rw [Nat.zero_add]
      exact rep_pair pl2 hT int_rep r
  · obtain ⟨xs, q1, q2⟩ := itx_stop.mp (h.2 H2 G2 g pl2)
    rw [enum_len]
    exact ⟨xs, q1, q2, fun j hj => go j H2 G2 hj g pl2⟩
theorem yl_zip {K : PySem.W.Frag} {o o' : Bool} {a b : Addr} {ds es : List D} (h : Yl K C p0 (Itx K o a) ds H G) (h' : Yl K C p0 (Itx K o' b) es H G) : Yl K C p0 (ItzB K o o' a b) (zipD ds es) H G := by
  refine ⟨fun i d H2 G2 e g pl2 => ?_, fun H2 G2 g pl2 => ?_⟩
  · obtain ⟨d1, d2, e1, e2, rfl⟩ := zip_get _ _ _ _ e
    obtain ⟨h1, h2⟩ := h.1 i d1 H2 G2 e1 g pl2
    obtain ⟨h1', h2'⟩ := h'.1 i d2 H2 G2 e2 g pl2
    obtain ⟨xs, x, a1, a2⟩ := itx_go.mp h1
    obtain ⟨ys, y, b1, b2⟩ := itx_go.mp h1'
    refine ⟨⟨xs, ys, x, y, a1, b1, a2, b2⟩, fun v H3 y => ?_⟩
    obtain ⟨T, x, y, rfl, hT, rfl, hx, hy⟩ := y
    obtain ⟨_, r⟩ := h2 x H2 (itx_yld hx)
    obtain ⟨_, r'⟩ := h2' y H2 (itx_yld hy)
    exact rep_pair pl2 hT r r'
  · obtain ⟨xs, q1, q2⟩ := itx_stop.mp (h.2 H2 G2 g pl2)
    obtain ⟨ys, q3, q4⟩ := itx_stop.mp (h'.2 H2 G2 g pl2)
    rw [zip_len]
    refine ⟨xs, ys, q1, q3, by omega, fun j hj => ?_⟩
    have j1 : j < ds.length := by omega
    have j2 : j < es.length := by omega
    exact ⟨itx_go.mp (h.1 j ds[j] H2 G2 (by simp [j1]) g pl2).1, itx_go.mp (h'.1 j es[j] H2 G2 (by simp [j2]) g pl2).1⟩
/-- a sequence that is nobody's own, walked -/
theorem seq_plain {K : PySem.W.Frag} {d : D} {x : V} {fq : List Addr} {Q : List D → Strm → Prop} (pl : PL p0 H) (r : Rep K C p0 H G d x fq) (no : d.noOwn = true) (h : W (seqD d) s Q) : ∃ o a xs ds, x = .ref a ∧ Q ds s ∧ D.noOwns ds = true ∧ SqB K o H a xs ∧ Yl K C p0 (Itx K o a) ds H G := by
  unfold seqD at h
  split at h
  · rename_i ns
    rw [Rep] at r
    obtain ⟨⟨a, rfl, sc⟩, _⟩ := r
    refine ⟨true, a, _, _, rfl, h, ?_, sc.sq, ?_⟩
    · clear h sc no
      induction ns with
      | nil => rfl
      | cons n ns ih => exact ih
    refine ⟨fun i d H2 G2 e g pl2 => ?_, fun H2 G2 g _ => ?_⟩
    all_goals
      have sq : SqL K H2 a (ns.map V.int) := by
        rcases sc with ⟨o, q⟩ | q
        · exact .inl (.inr ⟨o, g.keep _ _ (pl.ne q fun _ z => by cases z) q (.inr fun _ z => by cases z)⟩)
        · exact .inr q
    · rw [List.getElem?_map] at e
      cases q : ns[i]? with
      | none => rw [q] at e; cases e
      | some z =>
        rw [q] at e
        cases e
        have e1 : (ns.map V.int)[i]? = some (V.int z) := by rw [List.getElem?_map, q] <;> rfl
        refine ⟨⟨_, _, sq, e1⟩, fun x H3 y => ?_⟩
        obtain ⟨rfl, y⟩ := y
        have := y _ sq
        rw [e1] at this
        cases this
        exact ⟨Ex.rfl', int_rep⟩
    · exact ⟨_, sq, by simp⟩
  · obtain ⟨a, vs, rfl, e1, r1⟩ := tup_of r
    have := r1.noOwn no
    subst this
    exact ⟨false, a, vs, _, rfl, h, no, SqT.of e1, yl_tup pl e1 r1⟩
  · rename_i o ds
    rw [Rep] at r
    obtain ⟨a, vs, f2, rfl, e1, np, r1, q3⟩ := r
    have no : (!o && D.noOwns ds) = true := no
    simp only [Bool.and_eq_true, Bool.not_eq_true'] at no
    have := r1.noOwn no.2
    subst this
    rcases q3 with ⟨z, _, _⟩ | ⟨_, b, c, _⟩
    · rw [no.1] at z; cases z
    · exact ⟨true, a, vs, _, rfl, h, no.2, SqL.of e1, yl_list pl e1 np b r1⟩
  · exact h.elim
theorem si_enum (g : Gd C Γ Gs k X) {elts : List Expr} {kk : Nat} {tpos pos : Pos} {e : Expr} {m : ME} {p1 : Pos} (ha : SE C Γ k X .v m e) (hg : Gl X "enumerate") (hs : starEach [e] X.env = [(false, eval e X.env)]) : SI C Γ k X (.Tuple elts kk tpos) (.enum m) (.Call (.Name "enumerate" p1) [e] [] pos) := by
  obtain ⟨t, a1, a2⟩ := ha
  refine ⟨_, pi_enumB hg (g.wd.free _ (by decide)) (pa_cons a1 pa_nil (by rw [hs] <;> rfl)) hs, fun p0 H0 G0 H G s env σ R x h => ?_⟩
  rw [items] at h
  refine a2 p0 H0 G0 H G s env σ _ x (W_mono (W_bind.mp h) fun d s1 q H1 G1 v fp g1 x1 r1 z1 => ?_)
  obtain ⟨n, f⟩ := z1 rfl
  obtain ⟨a, rfl, hh⟩ := seq_sem (R := fun J H' => ∀ a, (J = Itl X.K a → R (IteB X.K true a) H') ∧ (J = Itt X.K a → R (IteB X.K false a) H')) x g1 x1 r1 n f (W_mono (W_seqD (W_bind.mp q)) fun ds s' qq => by
    obtain ⟨q0, qq⟩ := qq
    subst q0
    obtain ⟨q1, q2⟩ := W_pure.mp qq
    rw [enum_noOwns] at q1
    refine ⟨rfl, q1, fun G2 J g x2 y a => ⟨fun z => ?_, fun z => ?_⟩⟩
    · subst z
      exact q2 H1 G2 _ g x2 (yl_enum (o := true) y)
    · subst z
      exact q2 H1 G2 _ g x2 (yl_enum (o := false) y))
  rcases hh with ⟨⟨xs, h1⟩, h2⟩ | ⟨⟨xs, h1⟩, h2⟩
  · exact ⟨true, a, xs, rfl, h1, (h2 a).1 rfl⟩
  · exact ⟨false, a, xs, rfl, h1, (h2 a).2 rfl⟩
theorem si_zip (g : Gd C Γ Gs k X) {elts : List Expr} {kk : Nat} {tpos pos : Pos} {e e' : Expr} {m m' : ME} {p1 : Pos} (ha : SE C Γ k X .v m e) (hb : SE C Γ k X .v m' e') (hg : Gl X "zip") (hs : starEach [e, e'] X.env = [(false, eval e X.env), (false, eval e' X.env)]) (hs2 : starEach [e'] X.env = [(false, eval e' X.env)]) :
    SI C Γ k X (.Tuple elts kk tpos) (.zip m m') (.Call (.Name "zip" p1) [e, e'] [] pos) := by
  obtain ⟨ta, tb, a1, b1, h2⟩ := two_p ha hb
  refine ⟨_, pi_zipB hg (g.wd.free _ (by decide)) (pa_cons a1 (pa_cons b1 pa_nil (by rw [hs2] <;> rfl)) (by rw [hs, hs2])) (by rw [hs, hs2]) (by rw [hs2] <;> rfl), fun p0 H0 G0 H G s env σ R x h => ?_⟩
  rw [items] at h
  refine h2 p0 H0 G0 H G s env σ _ x (W_mono (W_bind.mp h) fun dx s1 q => W_mono (W_bind.mp q) fun dy s2 q H2 G2 x y fa fb g x2 r1 _ r2 => ?_)
  obtain ⟨⟨n1, n2⟩, q⟩ := W_guard.mp (W_bind.mp q)
  obtain ⟨o, a, xs, ds, rfl, q, no1, sq1, y1⟩ := seq_plain x2.pl r1 n1 (W_bind.mp q)
  obtain ⟨o', b, ys, es, rfl, q, no2, sq2, y2⟩ := seq_plain x2.pl r2 n2 (W_bind.mp q)
  obtain ⟨_, q2⟩ := W_pure.mp q
  exact ⟨o, o', a, b, xs, ys, rfl, sq1, sq2, q2 H2 G2 _ g x2 (yl_zip y1 y2)⟩
end
end Mp

namespace Mp
open PySem PySem.Spec PyProof.Rows L2 HT
section
variable {prog : Program} {w : World} {A : Around} {E : Value → Shared → Prop} {s : Shared}
theorem applied_rev {sl : Addr} {vs : Value} {n : Nat} {Q : Int × Int × Nat → Shared → Prop} (hs : s.heap.IsSliceOf sl .none .none vs) (ps : IsPart vs (some (-1))) (h : Q ((n : Int) - 1, -1, n) s) : wpAny (model prog w) A (Builtin.Slice.sliceApplied (.ref sl) (pure (n : Int))) Q E s := by
  obtain ⟨os, hos, hcs, hds⟩ := id hs
  unfold Builtin.Slice.sliceApplied Builtin.Slice.sliceFields
  refine wpAny_bind (wpAny_bind (wpAny_field hos hds (x := .none) rfl (wpAny_bind (wpAny_field hos hds (x := .none) rfl (wpAny_bind (wpAny_field hos hds (x := vs) rfl (wpAny_pure ?_)))))))
  refine wpAny_bind (slicePart_ ps ?_)
  show wpAny _ _ (if ((-1 : Int) == 0) = true then _ else _) _ _ s
  rw [if_neg (by decide)]
  refine wpAny_bind (slicePart_none (wpAny_bind (slicePart_none (wpAny_bind (wpAny_pure ?_)))))
  have e1 : Builtin.Slice.sliceAdjust none none (-1) (n : Int) = ((n : Int) - 1, -1) := rfl
  have e2 : Builtin.Slice.slicePlaces ((n : Int) - 1) (-1) (-1) = n := by
    unfold Builtin.Slice.slicePlaces
    rw [if_neg (by decide)]
    split
    · rw [show (-(-1) : Int) = 1 from rfl, Int.ediv_one]
      omega
    · omega
  show wpAny _ _ (match Builtin.Slice.sliceAdjust none none (-1) (n : Int) with | (lo, hi) => pure (lo, (-1 : Int), Builtin.Slice.slicePlaces lo hi (-1))) _ _ s
  rw [e1]
  show wpAny _ _ (pure ((n : Int) - 1, (-1 : Int), Builtin.Slice.slicePlaces ((n : Int) - 1) (-1) (-1))) _ _ s
  rw [e2]
  exact wpAny_pure h
theorem pick_back (xs : Array Value) : ((List.range xs.size).filterMap fun (m : Nat) => xs[((xs.size : Int) - 1 + (m : Int) * (-1)).toNat]?).toArray = xs.toList.reverse.toArray := by
  congr 1
  have e : (List.range xs.size).filterMap (fun (m : Nat) => xs[((xs.size : Int) - 1 + (m : Int) * (-1)).toNat]?) = ((List.range xs.size).map fun k => xs.size - 1 - k).filterMap fun m => xs[m]? := by
    rw [List.filterMap_map]
    congr 1
    funext m
    show xs[((xs.size : Int) - 1 + (m : Int) * (-1)).toNat]? = xs[xs.size - 1 - m]?
    congr 1
    omega
  rw [e, PySem.W.krv_range, List.filterMap_reverse]
  congr 1
  exact PySem.W.krv_all xs
theorem getItem_tuple_back {t sl : Addr} {items : Array Value} {vs : Value} {Q : Value → Shared → Prop} (ht : IsTup s.heap t items) (hs : s.heap.IsSliceOf sl .none .none vs) (ps : IsPart vs (some (-1)))
    (h : Q (.ref s.heap.objs.size) { s with heap := s.heap.push { cls := .type "tuple", data := .seq items.toList.reverse.toArray } }) (hsz : items.size ≤ sizeLine) : wpAny (model prog w) A (getItem (.ref t) (.ref sl)) Q E s := by
  have hnew : sizeOk (.seq items.toList.reverse.toArray) := by
    show items.toList.reverse.toArray.size ≤ sizeLine
    rw [List.size_toArray, List.length_reverse, Array.length_toList]
    exact hsz
  obtain ⟨os, hos, hcs, hds⟩ := id hs
  have hTs : s.TypeIs (.ref sl) "slice" := ⟨os, hos, hcs⟩
  unfold getItem
  try with_reducible refine wpAny_holding ?_
  first | refine wpAny_bind (wpAny_pure ?_) | skip
  refine wpAny_bind (wpAny_sequenceKey ht.typeIs (by decide) ?_)
  refine wpAny_bind (wpAny_callSpecial?_slot (name := Str.ofString "__getitem__") ht.typeIs PyProof.Rows.slot_tuple_getitem
    (wpAny_call_entry PyProof.Rows.slot_tuple_getitem ht.typeIs entry_tuple_getitem ?_ (args_tuple_getitem _ _)))
  show wpAny _ _ (Builtin.Tuple.tupleItemsOf (.ref t) >>= _) _ _ s
  refine wpAny_bind (tupleItemsOf_ ht ?_)
  refine wpAny_bind (wpAny_typeOf hTs ?_)
  rw [if_pos (by decide)]
  refine wpAny_bind (applied_rev hs ps ?_)
  have off : ¬ ((((items.size : Int) - 1) == 0 && (-1 : Int) == 1 && items.size == items.size) = true) := by
    rw [show ((-1 : Int) == 1) = false from rfl, Bool.and_false, Bool.false_and]
    decide
  show wpAny _ _ (if ((((items.size : Int) - 1) == 0 && (-1 : Int) == 1 && items.size == items.size) = true) then _ else _) _ _ s
  rw [if_neg off, pick_back]
  first
    | exact wpAny_bind (m := Builtin.Tuple.tupleExact _) (wpAny_newObj_type (wpAny_pure ⟨_, rfl, wpAny_pure h⟩) hnew)
    | exact wpAny_bind (m := Builtin.Tuple.tupleExact _) (wpAny_newObj_type (wpAny_bind (wpAny_pure (wpAny_pure ⟨_, rfl, wpAny_pure h⟩))) hnew)
    | exact wpAny_bind (wpAny_bind (m := Builtin.Tuple.tupleExact _) (wpAny_newObj_type (wpAny_pure (wpAny_pure ⟨_, rfl, wpAny_pure h⟩)) hnew))
    | exact wpAny_bind (wpAny_bind (m := Builtin.Tuple.tupleExact _) (wpAny_newObj_type (wpAny_pure ⟨_, rfl, wpAny_pure h⟩) hnew))
end
section
variable {X : Cx}
/-- xs[::-1], t[::-1] -/
def tRevA (K : PySem.W.Frag) (te : TE) : TE := fun σ H Q => te σ H fun x H1 => ∃ a xs, x = .ref a ∧ ((SqL K H1 a xs ∧ ∀ p, H1 p = none → Q (.ref p) (upd H1 p (.lst xs.reverse))) ∨ (SqT K H1 a xs ∧ ∀ p, H1 p = none → Q (.ref p) (upd H1 p (.tup xs.reverse))))
theorem pe_revA {e : Expr} {te : TE} {k : Nat} {p1 p2 p3 pos : Pos} (he : PE X e te) : PE X (.Subscript e (.Slice none none (some (.UnaryOp .USub (.Constant (.int 1) k p1) p2)) p3) pos) (tRevA X.K te) := by
  refine ⟨fun pins s σ H Q I h => ?_⟩
  refine Subscript_ (thn (he.run pins s σ H _ I h) fun v s1 ⟨x, H1, I1, r1, q1⟩ => ?_)
  obtain ⟨a, xs, ex, hor⟩ := q1
  subst ex
  cases r1
  have hst : PO X (some (.UnaryOp .USub (.Constant (.int 1) k p1) p2)) (tPart (tUn (rU fun i => .int (-i)) (tC (.int 1)))) := po_some (pe_un un_neg pe_int)
  refine wpAny_Slice (thn (po_none.run pins s1 σ H1 (fun o H2 => o = none ∧ H2 = H1) I1 ⟨rfl, rfl⟩) fun vl s2 ⟨l, H2, I2, pl, el, e2⟩ => ?_)
  subst el e2
  refine thn (po_none.run pins s2 σ H2 (fun o H3 => o = none ∧ H3 = H2) I2 ⟨rfl, rfl⟩) fun vu s3 ⟨u, H3, I3, pu, eu, e3⟩ => ?_
  subst eu e3
  refine thn (hst.run pins s3 σ H3 (fun o H4 => o = some (-1) ∧ H4 = H3) I3 ⟨1, rfl, -1, rfl, rfl, rfl⟩) fun vs s4 ⟨o, H4, I4, ps, eo, e4⟩ => ?_
  subst eo e4
  have I5 : Inv X pins σ H4 { s4 with heap := s4.heap.push { cls := .type "slice", data := .fields #[vl, vu, vs] } } := I4.kept (t' := s4.toks) fun b ob q => Heap.get?_push_of_some _ q
  rcases hor with ⟨hx, q⟩ | ⟨hx, q⟩
  · obtain ⟨its, r, ht, hz⟩ := I5.list hx
    have hlen := r.length
    show wpAny (model X.prog X.w) X.A (subscriptTail e (.Slice none none (some (.UnaryOp .USub (.Constant (.int 1) k p1) p2)) p3) (.ref a) (.ref s4.heap.objs.size)) (EP X pins σ Q) X.xe { s4 with heap := s4.heap.push { cls := .type "slice", data := .fields #[vl, vu, vs] } }
    refine tail_any (ops := [.ref a, .ref s4.heap.objs.size]) ht.isList.typeIs (PySem.slot_list_getitem.lookup) ?_ (by with_unfolding_all rfl)
    refine wpAny_getItem_list_slice ht.isList (Heap.IsSliceOf.new _ vl vu vs) pl pu ps (by decide) ?_ (by rw [List.size_toArray]; omega)
    rw [PySem.W.krv_pick]
    refine ⟨.ref _, _, I5.laid (t' := s4.toks) (o := .lst xs.reverse) (fun b ob q => Heap.get?_push_of_some _ q) (Nat.le_refl _) ?_, rfl, q _ (I5.hok.fresh (Nat.le_refl _))⟩
    exact ⟨by rw [List.length_reverse]; exact hz, _, 0, r.reverse, Heap.get?_push_size _ rfl⟩
  · obtain ⟨its, r, ht, hz⟩ := I5.tuple hx
    have hlen := r.length
    cases pl
    cases pu
    show wpAny (model X.prog X.w) X.A (subscriptTail e (.Slice none none (some (.UnaryOp .USub (.Constant (.int 1) k p1) p2)) p3) (.ref a) (.ref s4.heap.objs.size)) (EP X pins σ Q) X.xe { s4 with heap := s4.heap.push { cls := .type "slice", data := .fields #[.none, .none, vs] } }
    refine tail_any (ops := [.ref a, .ref s4.heap.objs.size]) ht.typeIs (PyProof.Rows.slot_tuple_getitem.lookup) ?_ (by with_unfolding_all rfl)
    refine getItem_tuple_back ht (Heap.IsSliceOf.new _ .none .none vs) ps ?_ (by rw [List.size_toArray]; omega)
    refine ⟨.ref _, _, I5.laid (t' := s4.toks) (o := .tup xs.reverse) (fun b ob q => Heap.get?_push_of_some _ q) (Nat.le_refl _) ?_, rfl, q _ (I5.hok.fresh (Nat.le_refl _))⟩
    exact ⟨by rw [List.length_reverse]; exact hz, _, r.reverse, IsTup.new _ _⟩
end
end Mp

namespace Mp
open PySem PySem.Spec
open PyProof.Rows L2
section
variable {C : Addr} {Γ : String → Option MDef} {Gs : String → Option Int} {k : Nat} {X : Cx} {p0 : Option Addr} {H H1 H2 H' H0 : Hp} {G G1 G2 G' G0 : GS} {s s2 : Strm} {env : En} {σ : L2.St} {Q : VK} {d : D} {v : V} {fp : List Addr} {st : Bool}
variable {p : Md} {pos : Pos}
theorem Reps.rev {K : PySem.W.Frag} : ∀ {ds : List D} {vs : List V}, Reps K C p0 H G ds vs [] → Reps K C p0 H G ds.reverse vs.reverse []
  | [], vs, r => by
    obtain ⟨rfl, _⟩ := Reps.nil_iff.mp r
    exact Reps.nil
  | d :: ds, vs, r => by
    obtain ⟨v, r', f, g, rfl, e, a, b⟩ := Reps.cons_iff.mp r
    obtain ⟨rfl, rfl⟩ := List.append_eq_nil_iff.mp e.symm
    rw [List.reverse_cons, List.reverse_cons]
    exact (Reps.append (Reps.rev b) (Reps.cons a Reps.nil) : Reps K C p0 H G _ _ ([] ++ ([] ++ [])))
/-- xs[::-1] -/
theorem reps_strs {K : PySem.W.Frag} : ∀ {ds : List D} {vs : List V} {f : List Addr} {ws : List Str}, Reps K C p0 H G ds vs f → strsD ds = some ws → vs = ws.map V.str
  | [], _, _, _, r, e => by
    obtain ⟨rfl, _⟩ := Reps.nil_iff.mp r
    cases (show some [] = some _ from e)
    rfl
  | d :: ds, _, _, bs, r, e => by
    obtain ⟨v, r', f, g, rfl, _, a, b⟩ := Reps.cons_iff.mp r
    cases d with
    | str c =>
      have e : (strsD ds).map (c :: ·) = some bs := e
      cases q : strsD ds with
      | none => rw [q] at e; cases e
      | some bs' =>
        rw [q] at e
        cases e
        rw [str_of a, reps_strs b q] <;> rfl
    | _ => cases e
theorem se_jn {m : ME} {e : Expr} {w : Str} {j : Nat} {p1 apos pos : Pos} (ha : SE C Γ k X .v m e) (hw : w = ⟨#[]⟩) (hs : starEach [e] X.env = [(false, eval e X.env)]) (hline : (apos.endLine == pos.line) = true) : SE C Γ k X p (.jn m) (.Call (.Attribute (.Constant (.str w) j p1) "join" apos) [e] [] pos) := by
  subst hw
  obtain ⟨ta, a1, a2⟩ := ha
  refine ⟨_, pe_join pe_str a1 hs rfl hline, fun p0 H0 G0 H G s env σ Q x h => ?_⟩
  rw [ev] at h
  refine ⟨⟨_, rfl⟩, a2 p0 H0 G0 H G s env σ _ x (W_mono (W_bind.mp h) fun d s1 q H1 G1 v fp g1 x1 r1 z1 => ?_)⟩
  unfold joinD at q
  split at q
  · obtain ⟨ws, ew, q⟩ := W_ofO.mp (W_bind.mp q)
    obtain ⟨c, q⟩ := W_guard.mp (W_bind.mp q)
    obtain ⟨p1, vs, f', rfl, e1, _, r2, _⟩ := lst_of r1
    have := reps_strs r2 ew
    subst this
    refine ⟨⟨#[]⟩, p1, ws, rfl, rfl, .inl (SqL.of e1), ?_, ?_⟩
    · have h0 : (⟨#[]⟩ : Str).length = 0 := rfl
      rw [h0, Nat.mul_zero, Nat.add_zero]
      have := lim_size c
      rwa [sizeLine_eq] at this
    · rw [TL.join_eq]
      exact Post.flat (show Post _ _ _ _ _ _ _ _ _ _ _ _ _ from W_pure.mp q) g1 x1 str_rep
  · exact q.elim
theorem se_rev {m : ME} {e : Expr} {j : Nat} {p1 p2 p3 : Pos} (ha : SE C Γ k X .v m e) : SE C Γ k X p (.rev m) (.Subscript e (.Slice none none (some (.UnaryOp .USub (.Constant (.int 1) j p1) p2)) p3) pos) := by
  obtain ⟨ta, a1, a2⟩ := ha
  refine ⟨_, pe_revA a1, fun p0 H0 G0 H G s env σ Q x h => ?_⟩
  rw [ev] at h
  refine a2 p0 H0 G0 H G s env σ _ x (W_mono (W_bind.mp h) fun d s1 q H1 G1 v fp g1 x1 r1 z1 => ?_)
  unfold revD at q
  split at q
  · obtain ⟨c, q⟩ := W_guard.mp (W_bind.mp q)
    obtain ⟨p1, ws, f', rfl, e1, _, r2, _⟩ := lst_of r1
    have ef := r2.noOwn c
    subst ef
    refine ⟨p1, ws, rfl, .inl ⟨SqL.of e1, fun l hl => ?_⟩⟩
    refine (show Post _ _ _ _ _ _ _ _ _ _ _ _ _ from q).fin g1 x1 (ex_upd hl) (lst_new r2.rev x1.pl hl x1.gs) (by simp) fun y hy => ?_
    have : y = l := by simpa using hy
    subst this
    exact grow_none g1 x1.pl hl
  · obtain ⟨c, q⟩ := W_guard.mp (W_bind.mp q)
    obtain ⟨p1, ws, rfl, e1, r2⟩ := tup_of r1
    have ef := r2.noOwn c
    subst ef
    refine ⟨p1, ws, rfl, .inr ⟨SqT.of e1, fun l hl => ?_⟩⟩
    refine (show Post _ _ _ _ _ _ _ _ _ _ _ _ _ from q).fin g1 x1 (ex_upd hl) (tup_new r2.rev x1.pl hl) .nil (by simp)
  · exact q.elim
/-- list(range(n)) -/
theorem se_lrg (g : Gd C Γ Gs k X) {m : ME} {e : Expr} {p1 p2 p3 : Pos} (ha : SE C Γ k X .v m e) (hl : Gl X "list") (hr : Gl X "range") (hs : starEach [e] X.env = (false, eval e X.env) :: starEach [] X.env) :
    SE C Γ k X p (.lrg m) (.Call (.Name "list" p1) [.Call (.Name "range" p2) [e] [] p3] [] pos) := by
  obtain ⟨ta, a1, a2⟩ := ha
  refine ⟨_, pe_listRg g.calm hl (g.wd.free _ (by decide)) (prg_1 hr (g.wd.free _ (by decide)) a1 hs), fun p0 H0 G0 H G s env σ Q x h => ?_⟩
  rw [ev] at h
  refine a2 p0 H0 G0 H G s env σ _ x (W_mono (W_bind.mp h) fun d s1 q H1 G1 v fp g1 x1 r1 z1 => ?_)
  have q := W_bind.mp q
  cases d with
  | int n =>
    obtain ⟨c, q⟩ := W_guard.mp (W_bind.mp q)
    have c : -(1000000 : Int) ≤ n ∧ n ≤ 1000000 := c
    rw [int_of r1]
    refine ⟨n, rfl, ⟨by omega, by omega, by omega, by omega, by omega⟩, fun l hl => ?_⟩
    have rr : Reps X.K C p0 H1 G1 (rangeD 0 n.toNat) (rgV 0 n) [] := by
      have := reps_of_ints (K := X.K) (C := C) (p0 := p0) (H := H1) (G := G1) ((List.range n.toNat).map fun (i : Nat) => (0 : Int) + (i : Nat))
      rw [List.map_map, List.map_map] at this
      unfold rangeD rgV
      rw [Int.sub_zero]
      exact this
    refine (show Post _ _ _ _ _ _ _ _ _ _ _ _ _ from q).fin g1 x1 (ex_upd hl) (lst_new rr x1.pl hl x1.gs) (by simp) fun y hy => ?_
    have : y = l := by simpa using hy
    subst this
    exact grow_none g1 x1.pl hl
  | _ => exact q.elim
/-- len(xs), whatever its items are -/
theorem se_ln (g : Gd C Γ Gs k X) {m : ME} {e : Expr} {p1 : Pos} (ha : SE C Γ k X .p m e) (hl : Gl X "len") (hs : starEach [e] X.env = (false, eval e X.env) :: starEach [] X.env) : SE C Γ k X p (.ln m) (.Call (.Name "len" p1) [e] [] pos) := by
  obtain ⟨ta, a1, a2⟩ := ha
  refine ⟨_, bi_pe g .len hl (pa_cons a1 pa_nil hs) hs rfl, fun p0 H0 G0 H G s env σ Q x h => ?_⟩
  rw [ev] at h
  refine a2 p0 H0 G0 H G s env σ _ x (W_mono (W_bind.mp h) fun d s1 q H1 G1 v fp g1 x1 r1 z1 => ?_)
  unfold lenD at q
  split at q
  · obtain ⟨p1, ws, f', rfl, e1, _, r2, _⟩ := lst_of r1
    exact .inl ⟨p1, ws, rfl, .inl (SqL.of e1), by rw [← r2.length]; exact Post.flat (show Post _ _ _ _ _ _ _ _ _ _ _ _ _ from q) g1 x1 int_rep⟩
  · obtain ⟨p1, ws, rfl, e1, r2⟩ := tup_of r1
    exact .inl ⟨p1, ws, rfl, .inr (SqT.of e1), by rw [← r2.length]; exact Post.flat (show Post _ _ _ _ _ _ _ _ _ _ _ _ _ from q) g1 x1 int_rep⟩
  · exact q.elim
/-- a fresh value, given away for good -/
theorem se_fz {m : ME} {e : Expr} (ha : SE C Γ k X .v m e) : SE C Γ k X p (.fz m) e := by
  obtain ⟨ta, a1, a2⟩ := ha
  refine ⟨_, a1, fun p0 H0 G0 H G s env σ Q x h => ?_⟩
  rw [ev] at h
  refine a2 p0 H0 G0 H G s env σ _ x (W_mono (W_bind.mp h) fun d s1 q H1 G1 v fp g1 x1 r1 z1 => ?_)
  obtain ⟨n1, fr⟩ := z1 rfl
  have g2 : Grow p0 H G H1 (fun a => G1 a ∨ a ∈ fp) := ⟨g1.keep, fun p hp => .inl (g1.gs p hp), fun p o np z hh => z.elim (fun z => g1.new p o np z hh) fun z => absurd ((fr p z).symm.trans hh) (by simp), g1.hd⟩
  obtain ⟨fe, re, ne, fe0⟩ := x.env
  have x2 : StX X.K C p0 H0 G0 H1 (fun a => G1 a ∨ a ∈ fp) s1 env σ := by
    refine ⟨x.grow.trans g2, fun p hp => ?_, fun p hp => ?_, fe, re.grow x.pl g2, ne, fe0⟩
    · obtain ⟨pc, b1, b2, b3, b4, b5⟩ := x1.strm p hp
      exact ⟨pc, b1, b2, b3, .inl b4, b5⟩
    · rcases hp with hp | hp
      · exact x1.gs p hp
      · obtain ⟨_, a, xs, b⟩ := r1.mem p hp
        exact ⟨a, _, b⟩
  exact (show Post _ _ _ _ _ _ _ _ _ _ _ _ _ from q) H1 _ v [] g2 x2 (r1.lend (fun _ z => .inl z) fun a ha => .inr ha) fun _ => ⟨.nil, by simp⟩
end
end Mp

namespace Mp
open PySem PySem.Spec
open PyProof.Rows L2
section
variable {C : Addr} {Γ : String → Option MDef} {Gs : String → Option Int} {k : Nat} {X : Cx} {p0 : Option Addr} {H H1 H2 H' H0 : Hp} {G G1 G2 G' G0 : GS} {s s2 s' : Strm} {env : En} {σ : L2.St} {Q : VK} {d : D} {v : V} {fp : List Addr} {st : Bool}
variable {p : Md} {pos pos' : Pos} {j : Nat}
/-! ### the evaluator's own reading -/
def tEv (K : PySem.W.Frag) (C : Addr) (Γ : String → Option MDef) (k : Nat) (p : Md) (m : ME) : TE := fun σ H Q => ∃ (p0 : Option Addr) (H0 : Hp) (G0 G : GS) (s : Strm) (env : En), StX K C p0 H0 G0 H G s env σ ∧
  W (ev (callF Γ k) env p m) s fun d s' => ∀ H' G' v fp, Grow p0 H G H' G' → StX K C p0 H0 G0 H' G' s' env σ → Rep K C p0 H' G' d v fp → (strict p m = true → fp.Nodup ∧ ∀ a ∈ fp, H a = none) → Q v H'
def tTs (K : PySem.W.Frag) (C : Addr) (Γ : String → Option MDef) (k : Nat) (m : ME) : TT := fun σ H Q => ∃ (p0 : Option Addr) (H0 : Hp) (G0 G : GS) (s : Strm) (env : En), StX K C p0 H0 G0 H G s env σ ∧
  W (tru (ev (callF Γ k) env .t m)) s fun b s' => ∀ H' G', Grow p0 H G H' G' → StX K C p0 H0 G0 H' G' s' env σ → Q b H'
theorem SE.canon {m : ME} {e : Expr} (h : SE C Γ k X p m e) : PE X e (tEv X.K C Γ k p m) := by
  obtain ⟨t, a, b⟩ := h
  exact ⟨fun pins s σ H Q I ⟨p0, H0, G0, G, st, env, x, w⟩ => a.run pins s σ H Q I (b p0 H0 G0 H G st env σ Q x w)⟩
theorem ST.canon {m : ME} {e : Expr} (h : ST C Γ k X m e) : PT X e (tTs X.K C Γ k m) := by
  obtain ⟨t, a, b⟩ := h
  exact ⟨fun pins s σ H Q I ⟨p0, H0, G0, G, st, env, x, w⟩ => a.run pins s σ H Q I (b p0 H0 G0 H G st env σ Q x w)⟩
/-! ### forgotten slots -/
theorem RepE.wipe {K : PySem.W.Frag} : ∀ (is : List Nat) {env : En} {σ : L2.St} {fp : List Addr}, RepE K C p0 H G env σ fp → fp.Nodup → ∃ fq, RepE K C p0 H G (wipeE env is) (L2.wipe σ is) fq ∧ fq.Nodup ∧ ∀ a ∈ fq, a ∈ fp
  | [], env, σ, fp, r, n => ⟨fp, r, n, fun _ h => h⟩
  | i :: is, env, σ, fp, r, n => by
    obtain ⟨fq, a, b, c⟩ := RepE.wipe is r n
    obtain ⟨fr, d1, d2, d3, d4⟩ := RepE.forget i a b
    exact ⟨fr, d2, d3, fun x hx => c x (d4 x hx)⟩
theorem RepE.kill {K : PySem.W.Frag} : ∀ (is : List Nat) {env : En} {σ : L2.St} {fp : List Addr}, RepE K C p0 H G env σ fp → fp.Nodup → ∃ fq, RepE K C p0 H G (wipeE env is) σ fq ∧ fq.Nodup ∧ ∀ a ∈ fq, a ∈ fp
  | [], env, σ, fp, r, n => ⟨fp, r, n, fun _ h => h⟩
  | i :: is, env, σ, fp, r, n => by
    obtain ⟨fq, a, b, c⟩ := RepE.kill is r n
    obtain ⟨fr, d1, d2, d3, d4⟩ := RepE.forget i a b
    exact ⟨fr, d1, d3, fun x hx => c x (d4 x hx)⟩
theorem wipe_get {σ : L2.St} {j : Nat} : ∀ {l : List Nat}, (L2.wipe σ l)[j]? = if j ∈ l then σ[j]?.map (fun _ => none) else σ[j]?
  | [] => by simp [L2.wipe]
  | v :: vs => by
    unfold L2.wipe
    have ih := wipe_get (σ := σ) (j := j) (l := vs)
    by_cases hv : v = j
    · subst hv
      rw [if_pos List.mem_cons_self]
      by_cases hl : v < (L2.wipe σ vs).length
      · rw [List.getElem?_set_self hl]
        rw [wipe_length] at hl
        rw [List.getElem?_eq_getElem hl] <;> rfl
      · have hl' : ¬ v < σ.length := by rw [wipe_length] at hl; exact hl
        rw [List.getElem?_eq_none (by simpa using hl), List.getElem?_eq_none (by simpa using hl')] <;> rfl
    · rw [List.getElem?_set_ne hv, ih]
      by_cases hm : j ∈ vs
      · rw [if_pos hm, if_pos (List.mem_cons_of_mem _ hm)]
      · rw [if_neg hm, if_neg (by simp only [List.mem_cons, not_or]; exact ⟨fun e => hv e.symm, hm⟩)]
theorem wipe_idem {σ : L2.St} {l : List Nat} : L2.wipe (L2.wipe σ l) l = L2.wipe σ l := by
  apply List.ext_getElem?
  intro j
  rw [wipe_get]
  by_cases h : j ∈ l
  · rw [if_pos h, wipe_get, if_pos h]
    cases σ[j]? <;> rfl
  · rw [if_neg h]
theorem wipe_set {σ : L2.St} {l : List Nat} {i : Nat} {x : Option V} (h : i ∈ l) : L2.wipe (σ.set i x) l = L2.wipe σ l := by
  apply List.ext_getElem?
  intro j
  rw [wipe_get, wipe_get]
  by_cases hj : j ∈ l
  · rw [if_pos hj, if_pos hj]
    by_cases hi : i = j
    · subst hi
      by_cases hl : i < σ.length
      · rw [List.getElem?_set_self hl, List.getElem?_eq_getElem hl] <;> rfl
      · rw [List.getElem?_eq_none (by simpa using hl), List.getElem?_eq_none (by simpa using hl)]
    · rw [List.getElem?_set_ne hi]
  · rw [if_neg hj, if_neg hj, List.getElem?_set_ne (fun e : i = j => hj (by rw [← e]; exact h))]
theorem gNs_wipe {l : List Nat} : ∀ (is : List Nat) {vs : List V} {σ : L2.St} {Q : L2.St → Hp → Prop}, (∀ i ∈ is, i ∈ l) → gNs is vs σ H Q → gNs is vs σ H fun σ' H' => L2.wipe σ' l = L2.wipe σ l ∧ Q σ' H'
  | [], _, _, _, _, h => ⟨h.1, rfl, h.2⟩
  | i :: is, vs, σ, Q, m, h => by
    obtain ⟨v, r, e, h⟩ := h
    refine ⟨v, r, e, ?_⟩
    have h : gNs is r (σ.set i (some v)) H fun σ' H' => Q σ' H' := h
    have := gNs_wipe is (fun i hi => m i (List.mem_cons_of_mem _ hi)) h
    rw [wipe_set (m i List.mem_cons_self)] at this
    exact this
theorem gT_wipe {K : PySem.W.Frag} {t : Tg} {Q : L2.St → Hp → Prop} (h : gT K t v σ H Q) : gT K t v σ H fun σ' H' => L2.wipe σ' t.slots = L2.wipe σ t.slots ∧ Q σ' H' := by
  cases t with
  | nm i => exact ⟨wipe_set (List.mem_singleton.mpr rfl), h⟩
  | tup is =>
    rcases h with ⟨a, xs, e, h1, h2, h3⟩ | ⟨a, xs, e, h1, h2, h3⟩
    · exact .inl ⟨a, xs, e, h1, h2, gNs_wipe is (fun _ h => h) h3⟩
    · exact .inr ⟨a, xs, e, h1, h2, gNs_wipe is (fun _ h => h) h3⟩
/-! ### a list that is being made: its maker's own, in no slot -/
theorem StAt.wrt {D0 : Addr} {xs ys : List V} (x : StAt p0 H G s) (hD : H D0 = some (.lst xs)) (np : some D0 ≠ p0) (hG : ¬ G D0) : StAt p0 (upd H D0 (.lst ys)) G s := fun p hp => by
  obtain ⟨pc, a, b, c, d, f⟩ := x p hp
  exact ⟨pc, by rw [upd_ne fun z => np (by rw [← z, hp])]; exact a, by rw [upd_ne (fun z : pc = D0 => hG (by rw [← z]; exact d))]; exact b, c, d, f⟩
theorem gs_wrt {D0 : Addr} {xs ys : List V} (x : ∀ p, G p → some p ≠ p0 ∧ ∃ o, H p = some o) (hD : H D0 = some (.lst xs)) : ∀ p, G p → some p ≠ p0 ∧ ∃ o, (upd H D0 (.lst ys)) p = some o := fun p hp => by
  obtain ⟨a, o, b⟩ := x p hp
  refine ⟨a, ?_⟩
  by_cases z : p = D0
  · subst z; exact ⟨_, upd_same⟩
  · exact ⟨o, by rw [upd_ne z]; exact b⟩
/-- a write at what is new since H -/
theorem Grow.wrt {D0 : Addr} {ys : List V} (g : Grow p0 H G H' G') (hD : H D0 = none) : Grow p0 H G (upd H' D0 (.lst ys)) G' :=
  ⟨fun p o n h => by rw [upd_ne fun z => by rw [z, hD] at h; cases h]; exact g.keep p o n h, g.gs, g.new, fun p x xs e h => by
    obtain ⟨zs, q⟩ := g.hd p x xs e h
    exact ⟨zs, by rw [upd_ne fun z => by rw [z, hD] at h; cases h]; exact q⟩⟩
structure LcI (K : PySem.W.Frag) (C : Addr) (p0 : Option Addr) (H0 : Hp) (G0 : GS) (Hs : Hp) (Gs0 : GS) (env : En) (σ : L2.St) (fe : List Addr) (D0 : Addr) (f : D → M (Option D)) (ds : List D) (R : List D → Strm → Prop) (i : Nat) (H : Hp) : Prop where
  ex : ∃ (G : GS) (s : Strm) (rs : List D) (acc : List V) (fq : List Addr), Grow p0 Hs Gs0 H G ∧ StAt p0 H G s ∧ (∀ p, G p → some p ≠ p0 ∧ ∃ o, H p = some o) ∧ RepE K C p0 H G env σ fe ∧ H D0 = some (.lst acc) ∧ ¬ G D0 ∧ Reps K C p0 H G rs acc fq ∧ fq.Nodup ∧ D0 ∉ fq ∧ (∀ a ∈ fq, Hs a = none) ∧ rs.length ≤ i ∧
    W (lcD f (ds.drop i)) s fun rs' s' => R (rs ++ rs') s'
/-- what is made of an item -/
def elemF (Γ : String → Option MDef) (k : Nat) (env : En) (t : Tg) (c e : ME) (d : D) : M (Option D) := do
  let env' ← asgT t d (wipeE env t.slots)
  let b ← (if isNop c then pure true else tru (ev (callF Γ k) env' .t c))
  if b then do let r ← ev (callF Γ k) env' .v e; pure (some r) else pure none
/-- a clause's test -/
def tCond (K : PySem.W.Frag) (C : Addr) (Γ : String → Option MDef) (k : Nat) (c : ME) : TT := if isNop c then tYes else tTs K C Γ k c
theorem lc_turn {t : Tg} {c e : ME} {ds : List D} {Hs : Hp} {Gs0 : GS} {fe : List Addr} {D0 : Addr} {R : List D → Strm → Prop} {i : Nat} {H3 : Hp} {x : V} (x0 : StX X.K C p0 H0 G0 Hs Gs0 s env σ) (fen : fe.Nodup) (fe0 : ∀ a ∈ fe, H0 a = none) (feS : ∀ a ∈ fe, ∃ o, Hs a = some o)
    (hDs : Hs D0 = none) (npD : some D0 ≠ p0) (hi : ds[i]? = some d) (hlen : ds.length ≤ LIM)
    (I : LcI X.K C p0 H0 G0 Hs Gs0 env σ fe D0 (elemF Γ k env t c e) ds R i H) (ex : Ex H H3) (rx : ∀ G, Grow p0 Hs Gs0 H G → Rep X.K C p0 H3 G d x []) :
    gT X.K t x (L2.wipe σ t.slots) H3 fun σ2 H2 => L2.wipe σ2 t.slots = L2.wipe σ t.slots ∧ tCond X.K C Γ k c σ2 H2 fun b H3 =>
      if b = true then tEv X.K C Γ k .v e σ2 H3 fun y H4 => ∃ acc, H4 D0 = some (.lst acc) ∧ acc.length < sizeLine ∧ LcI X.K C p0 H0 G0 Hs Gs0 env σ fe D0 (elemF Γ k env t c e) ds R (i + 1) (upd H4 D0 (.lst (acc ++ [y])))
      else LcI X.K C p0 H0 G0 Hs Gs0 env σ fe D0 (elemF Γ k env t c e) ds R (i + 1) H3 := by
  obtain ⟨G, st, rs, acc, fq, g, sa, gs, re, hD, nG, ra, nq, nDq, fr, hl, w⟩ := I.ex
  have il : i < ds.length := (List.getElem?_eq_some_iff.mp hi).1
  have ed : ds[i] = d := (List.getElem?_eq_some_iff.mp hi).2
  rw [List.drop_eq_getElem_cons il, ed] at w
  have w := W_bind.mp (show W (elemF Γ k env t c e d >>= _) st _ from w)
  -- the state beside the new pair
  have g3 : Grow p0 Hs Gs0 H3 G := g.trans (grow_ex ex)
  have sa3 : StAt p0 H3 G st := fun p hp => let ⟨pc, a, b, c, d, f⟩ := sa p hp; ⟨pc, ex _ _ a, ex _ _ b, c, d, f⟩
  have gs3 : ∀ p, G p → some p ≠ p0 ∧ ∃ o, H3 p = some o := fun p hp => let ⟨a, o, b⟩ := gs p hp; ⟨a, o, ex _ _ b⟩
  have re3 := re.grow sa.pl (grow_ex (G := G) ex)
  have ra3 := ra.grow sa.pl (grow_ex (G := G) ex)
  have hD3 := ex _ _ hD
  have x3 : StX X.K C p0 H0 G0 H3 G st env σ := ⟨x0.grow.trans g3, sa3, gs3, fe, re3, fen, fe0⟩
  obtain ⟨fw, w1, w2, w3⟩ := RepE.wipe t.slots re3 fen
  have rx := rx G g
  have w := W_bind.mp (show W (do
      let env' ← asgT t d (wipeE env t.slots)
      let b ← (if isNop c then pure true else tru (ev (callF Γ k) env' .t c))
      if b then do let r ← ev (callF Γ k) env' .v e; pure (some r) else pure none : M (Option D)) st _ from w)
  have key := tg_sem (X := X) t (Q := fun σ2 H2 => tCond X.K C Γ k c σ2 H2 fun b H3 =>
      if b = true then tEv X.K C Γ k .v e σ2 H3 fun y H4 => ∃ acc, H4 D0 = some (.lst acc) ∧ acc.length < sizeLine ∧ LcI X.K C p0 H0 G0 Hs Gs0 env σ fe D0 (elemF Γ k env t c e) ds R (i + 1) (upd H4 D0 (.lst (acc ++ [y])))
      else LcI X.K C p0 H0 G0 Hs Gs0 env σ fe D0 (elemF Γ k env t c e) ds R (i + 1) H3) (d := d) (v := x) (H := H3) (G := G) (H0 := H0) (env := wipeE env t.slots) (σ := L2.wipe σ t.slots) (s := st)
    ⟨fw, [], w1, (Reps.cons rx Reps.nil : Reps X.K C p0 H3 G [d] [x] ([] ++ [])), by simpa using w2, by simpa using fun a ha => fe0 a (w3 a ha)⟩ w ?_
  · have := gT_wipe key
    rw [wipe_idem] at this
    exact this
  intro env' σ' hR ⟨fe', r1, n1, f1⟩
  have x4 : StX X.K C p0 H0 G0 H3 G st env' σ' := ⟨x0.grow.trans g3, sa3, gs3, fe', r1, n1, f1⟩
  have nDe : D0 ∉ fe := fun z => by
    obtain ⟨o, q⟩ := feS D0 z
    rw [hDs] at q
    cases q
  have cont : ∀ (b : Bool) (H5 : Hp) (G5 : GS) (s5 : Strm), Grow p0 H3 G H5 G5 → StX X.K C p0 H0 G0 H5 G5 s5 env' σ' →
      W (if b then do let r ← ev (callF Γ k) env' .v e; pure (some r) else pure none : M (Option D)) s5 (fun r s' => W (lcD (elemF Γ k env t c e) (ds.drop (i + 1)) >>= fun qs => match r with | some y => pure (y :: qs) | none => pure qs) s' fun rs' s'' => R (rs ++ rs') s'') →
      (if b = true then tEv X.K C Γ k .v e σ' H5 fun y H4 => ∃ acc, H4 D0 = some (.lst acc) ∧ acc.length < sizeLine ∧ LcI X.K C p0 H0 G0 Hs Gs0 env σ fe D0 (elemF Γ k env t c e) ds R (i + 1) (upd H4 D0 (.lst (acc ++ [y])))
      else LcI X.K C p0 H0 G0 Hs Gs0 env σ fe D0 (elemF Γ k env t c e) ds R (i + 1) H5) := by
    intro b H5 G5 s5 g5 x5 w5
    have pl3 : PL p0 H3 := sa3.pl
    cases b with
    | false =>
      refine ite2 (fun z => by cases z) fun _ => ⟨⟨G5, s5, rs, acc, fq, g3.trans g5, x5.strm, x5.gs, re3.grow pl3 g5, g5.keep _ _ npD hD3, fun z => nG (g5.new _ _ npD z hD3), ra3.grow pl3 g5, nq, nDq, fr, Nat.le_succ_of_le hl, ?_⟩⟩
      have w5 := W_bind.mp (show W (lcD (elemF Γ k env t c e) (ds.drop (i + 1)) >>= fun qs => pure qs) s5 _ from w5)
      exact w5
    | true =>
      refine ite2 (fun _ => ?_) fun z => absurd rfl z
      have w5 := W_bind.mp (show W (ev (callF Γ k) env' .v e >>= fun r => pure (some r)) s5 _ from w5)
      refine ⟨p0, H0, G0, G5, s5, env', x5, W_mono w5 fun r s6 q H6 G6 v f6 g6 x6 r6 z6 => ?_⟩
      obtain ⟨n6, fr6⟩ := z6 rfl
      have g36 := g5.trans g6
      have hD6 := g36.keep _ _ npD hD3
      have nG6 : ¬ G6 D0 := fun z => nG (g36.new _ _ npD z hD3)
      have nD6 : D0 ∉ f6 := fun z => by
        have := fr6 D0 z
        rw [g5.keep _ _ npD hD3] at this
        cases this
      refine ⟨acc, hD6, ?_, ⟨G6, s6, rs ++ [r], acc ++ [v], fq ++ (f6 ++ []), (g3.trans g36).wrt hDs, x6.strm.wrt hD6 npD nG6, gs_wrt x6.gs hD6, RepE.wrtAll hD6 nG6 (re3.grow pl3 g36) nDe, upd_same, nG6, ?_, ?_, ?_, ?_, ?_, ?_⟩⟩
      · rw [← ra.length]
        exact lim_size' (Nat.lt_of_le_of_lt hl (Nat.lt_of_lt_of_le il hlen))
      · exact Reps.append (Reps.wrt hD6 nG6 (ra3.grow pl3 g36) nDq) (Reps.cons (Rep.wrt hD6 nG6 r6 nD6) Reps.nil)
      · rw [List.append_nil]
        refine nodup_app.mpr ⟨nq, n6, fun a h1 h2 => ?_⟩
        obtain ⟨_, np, xs, e⟩ := ra3.mem a h1
        have := fr6 a h2
        rw [g5.keep _ _ np e] at this
        cases this
      · rw [List.append_nil]
        exact fun z => (List.mem_append.mp z).elim nDq nD6
      · intro a ha
        rw [List.append_nil] at ha
        rcases List.mem_append.mp ha with h | h
        · exact fr a h
        · exact grow_none (g3.trans g5) x5.pl (fr6 a h)
      · rw [List.length_append]
        exact Nat.succ_le_succ hl
      · have q := W_bind.mp (show W (lcD (elemF Γ k env t c e) (ds.drop (i + 1)) >>= fun qs => pure (r :: qs)) s6 _ from q)
        refine W_mono q fun qs s7 q => ?_
        have q : R (rs ++ (r :: qs)) s7 := q
        rw [List.append_assoc]
        exact q
  have hR := W_bind.mp hR
  unfold tCond
  cases hc : isNop c with
  | true =>
    rw [hc] at hR
    exact cont true H3 G st Grow.rfl' x4 hR
  | false =>
    rw [hc] at hR
    exact ⟨p0, H0, G0, G, st, env', x4, W_mono (show W (tru (ev (callF Γ k) env' .t c)) st _ from hR) fun b s5 q H5 G5 g5 x5 => cont b H5 G5 s5 g5 x5 q⟩
/-- [e for t in it if c] -/
theorem se_lc (g : Gd C Γ Gs k X) {t : Tg} {m : MI} {c e : ME} {elt tg iter : Expr} {ifs : List Expr} {scope : Scope} {own : List (Str × Nat)} (hi : SI C Γ k X tg m iter) (ok : BlkOk X.N X.env.scope scope own) (ho : own.map (·.2) = t.slots)
    (hg : ∀ (s : Shared) (H : Hp) (C' : Addr) (cl : List (Str × Addr)) (fp : List Addr), PG (X.blk s H scope (compEnvC scope cl C' X.env) fp) tg (gT X.K t)) (ht : ∀ (s : Shared) (H : Hp) (C' : Addr) (cl : List (Str × Addr)) (fp : List Addr), PTs (X.blk s H scope (compEnvC scope cl C' X.env) fp) ifs (tCond X.K C Γ k c))
    (he : ∀ (s : Shared) (H : Hp) (C' : Addr) (cl : List (Str × Addr)) (fp : List Addr), SE C Γ k (X.blk s H scope (compEnvC scope cl C' X.env) fp) .v e elt) (hs : ∀ x, foldedSetIterable iter X.env x = pure x) :
    SE C Γ k X p (.lc t m c e) (.ListComp elt [⟨tg, iter, ifs, 0⟩] scope pos) ∧
      (∀ {i : Nat} {y : Str} {py spos : Pos}, X.N[i]? = some y → X.env.scope.names.lookup y = some .local → swapsWith (.ListComp elt [⟨tg, iter, ifs, 0⟩] scope pos) (some (.Name y py)) spos.line X.env = pure true →
        ∃ te, PS X (.Assign [.Name y py] (.ListComp elt [⟨tg, iter, ifs, 0⟩] scope pos) spos) (tAsg te (gName i)) ∧ ∀ (p0 : Option Addr) (H0 : Hp) (G0 : GS) (H : Hp) (G : GS) (s : Strm) (env : En) (σ : L2.St) (Q : VK), StX X.K C p0 H0 G0 H G s env σ →
          W (ev (callF Γ k) env .v (.lc t m c e)) s (Post C X p0 true H0 G0 H G env σ Q) → te σ H Q) := by
  obtain ⟨wi, i1, i2⟩ := hi
  have sem : ∀ (p' : Md) (p0 : Option Addr) (H0 : Hp) (G0 : GS) (H : Hp) (G : GS) (s : Strm) (env : En) (σ : L2.St) (Q : VK), StX X.K C p0 H0 G0 H G s env σ →
          W (ev (callF Γ k) env p' (.lc t m c e)) s (Post C X p0 true H0 G0 H G env σ Q) → tLc wi (gT X.K t) (tCond X.K C Γ k c) (tEv X.K C Γ k .v e) (own.map (·.2)) σ H Q := by
    intro p' p0 H0 G0 H G s env σ Q x h
    rw [ho]
    rw [ev] at h
    refine i2 p0 H0 G0 H G s env σ _ x (W_mono (W_bind.mp h) fun ds s1 q => ?_)
    obtain ⟨⟨c1, c2⟩, q⟩ := W_guard.mp (W_bind.mp q)
    have q := W_bind.mp (show W (lcD (elemF Γ k env t c e) ds >>= fun rs => pure (D.lst true rs)) s1 _ from q)
    refine ⟨c2, fun H1 G1 J g1 x1 yl D0 hD => ?_⟩
    obtain ⟨fe, re, fen, fe0⟩ := x.env
    have re1 := re.grow x.pl g1
    have npD : some D0 ≠ p0 := ne_p0 x1.pl hD
    have feS : ∀ a ∈ fe, ∃ o, H1 a = some o := fun a ha => let ⟨_, _, xs, z⟩ := re1.mem a ha; ⟨_, z⟩
    have nG1 : ¬ G1 D0 := fun z => by
      obtain ⟨_, o, z⟩ := x1.gs D0 z
      rw [hD] at z
      cases z
    have eD := ex_upd (H := H1) (o := .lst []) hD
    have x1' : StX X.K C p0 H0 G0 H1 G1 s1 env σ := ⟨x1.grow, x1.strm, x1.gs, fe, re1, fen, fe0⟩
    refine ⟨fun i mm Hi => mm = ds.length - i ∧ i ≤ ds.length ∧ LcI X.K C p0 H0 G0 H1 G1 env σ fe D0 (elemF Γ k env t c e) ds (fun rs s' => Post C X p0 true H0 G0 H G env σ Q (.lst true rs) s') i Hi, ⟨ds.length, by simp, Nat.zero_le _, ⟨G1, s1, [], [], [], grow_ex eD, (x1.ex' eD).strm, (x1.ex' eD).gs, re1.grow x1.pl (grow_ex eD), upd_same, nG1, Reps.nil, .nil, by simp, by simp, Nat.le_refl _, ?_⟩⟩, ?_⟩
    · exact W_mono q fun rs s2 q => q
    · rintro i mm H' ⟨rfl, hle, I⟩
      obtain ⟨G', st, rs, acc, fq, g', sa, gs, re', hD', nG', ra, nq, nDq, fr, hl, w⟩ := I.ex
      by_cases hlt : i < ds.length
      · obtain ⟨go, yld⟩ := yl.1 i ds[i] H' G' (List.getElem?_eq_getElem hlt) g'.evo sa.pl
        refine .inr ⟨go, fun H'' => LcI X.K C p0 H0 G0 H1 G1 env σ fe D0 (elemF Γ k env t c e) ds (fun rs s' => Post C X p0 true H0 G0 H G env σ Q (.lst true rs) s') (i + 1) H'', fun H'' n => ⟨ds.length - (i + 1), by omega, rfl, hlt, n⟩, fun y H3 hy => ?_⟩
        obtain ⟨ex, _⟩ := yld y H3 hy
        exact lc_turn x1' fen fe0 feS hD npD (List.getElem?_eq_getElem hlt) c1 I ex fun G2 g2 => ((yl.1 i ds[i] H' G2 (List.getElem?_eq_getElem hlt) g2.evo sa.pl).2 y H3 hy).2
      · have e : i = ds.length := by omega
        subst e
        refine .inl ⟨yl.2 H' G' g'.evo sa.pl, ?_⟩
        rw [List.drop_length] at w
        have w : Post C X p0 true H0 G0 H G env σ Q (.lst true (rs ++ [])) st := w
        rw [List.append_nil] at w
        refine w H' G' (.ref D0) (D0 :: fq) (g1.trans g') ⟨x1.grow.trans g', sa, gs, fe, re', fen, fe0⟩ ?_ fun _ => ⟨List.nodup_cons.mpr ⟨nDq, nq⟩, fun a ha => ?_⟩
        · rw [Rep]
          exact ⟨D0, acc, fq, rfl, hD', npD, ra, .inl ⟨rfl, nG', rfl⟩⟩
        · rcases List.mem_cons.mp ha with rfl | ha
          · exact grow_none g1 x1.pl hD
          · exact grow_none g1 x1.pl (fr a ha)
  refine ⟨⟨_, pe_lc g.calm g.nd i1 ok hg ht (fun s H C' cl fp => show PE _ elt (tEv X.K C Γ k .v e) from (he s H C' cl fp).canon) hs, fun p0 H0 G0 H G s env σ Q x h => ?_⟩, fun {i y py spos} hN hl hsw => ⟨_, ps_setLc g.calm g.nd hN hl hsw i1 ok hg ht (fun s H C' cl fp => show PE _ elt (tEv X.K C Γ k .v e) from (he s H C' cl fp).canon) hs, fun p0 H0 G0 H G s env σ Q x h => sem .v p0 H0 G0 H G s env σ Q x h⟩⟩
  have e : strict p (.lc t m c e) = true := by cases p <;> rfl
  rw [e] at h
  exact sem p p0 H0 G0 H G s env σ Q x h
end
end Mp

namespace Mp
open PySem PySem.Spec
open PyProof.Rows L2
section
variable {C : Addr} {Γ : String → Option MDef} {Gs : String → Option Int} {k : Nat} {X : Cx} {p0 : Option Addr} {H H1 H2 H' H0 : Hp} {G G1 G2 G' G0 : GS} {s s2 s' : Strm} {env : En} {σ : L2.St} {d : D} {v : V} {fp : List Addr} {st : Bool}
variable {p : Md} {pos pos' : Pos} {j : Nat}
def PostS (C : Addr) (X : Cx) (p0 : Option Addr) (H0 : Hp) (G0 : GS) (H : Hp) (G : GS) (Q : Ends) : Fl → Strm → Prop
  | .nx env', s' => ∀ H' G' σ', Evo p0 H G H' G' → StX X.K C p0 H0 G0 H' G' s' env' σ' → Q.nx σ' H'
  | .brk env', s' => ∀ H' G' σ', Evo p0 H G H' G' → StX X.K C p0 H0 G0 H' G' s' env' σ' → Q.bk σ' H'
  | .cont env', s' => ∀ H' G' σ', Evo p0 H G H' G' → StX X.K C p0 H0 G0 H' G' s' env' σ' → Q.ct σ' H'
  | .ret d, s' => ∀ H' G' v fp, Grow p0 H0 G0 H' G' → StAt p0 H' G' s' → (∀ p, G' p → some p ≠ p0 ∧ ∃ o, H' p = some o) → Rep X.K C p0 H' G' d v fp → fp.Nodup → (∀ a ∈ fp, H0 a = none) → Q.rt v H'
def SS (C : Addr) (Γ : String → Option MDef) (k : Nat) (X : Cx) (m : MS) (e : Stmt) : Prop := ∃ t, PS X e t ∧ ∀ (p0 : Option Addr) (H0 : Hp) (G0 : GS) (H : Hp) (G : GS) (s : Strm) (env : En) (σ : L2.St) (Q : Ends), StX X.K C p0 H0 G0 H G s env σ →
  W (run (callF Γ k) env m) s (PostS C X p0 H0 G0 H G Q) → t Q σ H
def SSs (C : Addr) (Γ : String → Option MDef) (k : Nat) (X : Cx) (m : MSs) (es : List Stmt) : Prop := ∃ t, PSs X es t ∧ ∀ (p0 : Option Addr) (H0 : Hp) (G0 : GS) (H : Hp) (G : GS) (s : Strm) (env : En) (σ : L2.St) (Q : Ends), StX X.K C p0 H0 G0 H G s env σ →
  W (runs (callF Γ k) env m) s (PostS C X p0 H0 G0 H G Q) → t Q σ H
theorem PostS.evo {Q : Ends} {r : Fl} (e : Evo p0 H G H1 G1) (h : PostS C X p0 H0 G0 H G Q r s) : PostS C X p0 H0 G0 H1 G1 Q r s := by
  cases r with
  | nx env' => exact fun H' G' σ' e' x => h H' G' σ' (e.trans e') x
  | brk env' => exact fun H' G' σ' e' x => h H' G' σ' (e.trans e') x
  | cont env' => exact fun H' G' σ' e' x => h H' G' σ' (e.trans e') x
  | ret d => exact h
/-! ### simple ones -/
theorem ss_asg {t : Tg} {m : ME} {tg e : Expr} (he : SE C Γ k X .v m e) (hg : PG X tg (gT X.K t)) (hs : swapsWithSole [tg] e pos.line X.env = pure false) (hw : swappedStores [tg] e X.env = pure none) (h1 : (assignEach [tg] X.env).map (·.2) = [assign tg X.env]) : SS C Γ k X (.asg t m) (.Assign [tg] e pos) := by
  obtain ⟨te, a1, a2⟩ := he
  refine ⟨_, ps_asg a1 hg hs hw h1, fun p0 H0 G0 H G s env σ Q x h => ?_⟩
  rw [run] at h
  refine a2 p0 H0 G0 H G s env σ _ x (W_mono (W_bind.mp h) fun d s1 q H1 G1 v fp g1 x1 r1 z1 => ?_)
  obtain ⟨n, f⟩ := z1 rfl
  refine tg_sem t (x.beside g1 (Reps.cons r1 Reps.nil) (by simpa using n) (by simpa using f)) (W_bind.mp q) fun env' σ' q e => ?_
  exact (show PostS C X p0 H0 G0 H G Q (.nx env') s1 from q) H1 G1 σ' g1.evo (x1.envs e)
theorem ss_asgC {i : Nat} {y : Str} {m : ME} {e : Expr} {py : Pos} (he : ∃ te, PS X (.Assign [.Name y py] e pos) (tAsg te (gName i)) ∧ ∀ (p0 : Option Addr) (H0 : Hp) (G0 : GS) (H : Hp) (G : GS) (s : Strm) (env : En) (σ : L2.St) (Q : VK), StX X.K C p0 H0 G0 H G s env σ →
          W (ev (callF Γ k) env .v m) s (Post C X p0 true H0 G0 H G env σ Q) → te σ H Q) : SS C Γ k X (.asg (.nm i) m) (.Assign [.Name y py] e pos) := by
  obtain ⟨te, a1, a2⟩ := he
  refine ⟨_, a1, fun p0 H0 G0 H G s env σ Q x h => ?_⟩
  rw [run] at h
  refine a2 p0 H0 G0 H G s env σ _ x (W_mono (W_bind.mp h) fun d s1 q H1 G1 v fp g1 x1 r1 z1 => ?_)
  obtain ⟨n, f⟩ := z1 rfl
  have q : PostS C X p0 H0 G0 H G Q (.nx (setE env i d)) s1 := q
  have b := x.beside g1 (Reps.cons r1 Reps.nil) (by simpa using n) (by simpa using f)
  have := tg_sem (.nm i) (R := fun env' s' => env' = setE env i d ∧ s' = s1) (s := s1) (Q := Q.nx) (H := H1) b ⟨rfl, rfl⟩ fun env' σ' q' e => by
    rw [q'.1] at e
    exact q H1 G1 σ' g1.evo (x1.envs e)
  exact this
theorem ss_par {i l : Nat} {m1 m2 : ME} {x y : Str} {a b : Expr} {px py pt : Pos} {kt k2 : Nat} {pt2 : Pos} (g : Gd C Γ Gs k X) (ha : SA C k X true (fun env => evs (callF Γ k) env (.cons m1 (.cons m2 .nil))) [a, b]) (hi : X.N[i]? = some x) (hj : X.N[l]? = some y) (hij : i ≠ l)
    (hx : X.env.scope.names.lookup x = some .local) (hy : X.env.scope.names.lookup y = some .local) (hw : swappedStores [.Tuple [.Name x px, .Name y py] kt pt] (.Tuple [a, b] k2 pt2) X.env = pure (some [x, y])) :
    SS C Γ k X (.par i l m1 m2) (.Assign [.Tuple [.Name x px, .Name y py] kt pt] (.Tuple [a, b] k2 pt2) pos) := by
  obtain ⟨ta, a1, a2⟩ := ha
  refine ⟨_, ps_par g.calm g.nd hi hj hij hx hy a1 hw, fun p0 H0 G0 H G s env σ Q x h => ?_⟩
  have h : W (evs (callF Γ k) env (.cons m1 (.cons m2 .nil)) >>= fun ds => match ds with | [x, y] => pure (Fl.nx (setE (setE env i x) l y)) | _ => bad) s (PostS C X p0 H0 G0 H G Q) := by
    rw [run] at h
    rw [evs]
    refine W_bind.mpr (W_bind.mpr (W_mono (W_bind.mp h) fun dx s1 q => W_bind.mpr ?_))
    rw [evs]
    refine W_bind.mpr (W_mono (W_bind.mp q) fun dy s2 q => W_bind.mpr ?_)
    rw [evs]
    exact q
  refine a2 p0 H0 G0 H G s env σ _ x (W_mono (W_bind.mp h) fun ds s1 q H1 G1 vs fp g1 x1 r1 z1 => ?_)
  obtain ⟨n, f⟩ := z1 rfl
  have b := x.beside g1 r1 n f
  split at q
  · rename_i d1 d2
    obtain ⟨v, w, f1, f2, rfl, _, _⟩ := reps2 r1
    have q : PostS C X p0 H0 G0 H G Q (.nx (setE (setE env i d1) l d2)) s1 := q
    have := sets_sem [i, l] (R := fun env' s' => env' = setE (setE env i d1) l d2 ∧ s' = s1) (s := s1) (Q := Q.nx) (H := H1) b ⟨rfl, rfl⟩ fun env' σ' q' e => by
      rw [q'.1] at e
      exact q H1 G1 σ' g1.evo (x1.envs e)
    obtain ⟨v', r, e1, v2, r2, e2, _, e3⟩ := this
    cases e1
    cases e2
    exact ⟨v, w, rfl, e3⟩
  · exact q.elim
theorem ss_exp {m : ME} {e : Expr} (he : SE C Γ k X .p m e) (hs : swapsWith e none pos.line X.env = pure false) : SS C Γ k X (.exp m) (.Expr e pos) := by
  obtain ⟨te, a1, a2⟩ := he
  refine ⟨_, ps_expr a1 hs, fun p0 H0 G0 H G s env σ Q x h => ?_⟩
  rw [run] at h
  refine a2 p0 H0 G0 H G s env σ _ x (W_mono (W_bind.mp h) fun d s1 q H1 G1 v fp g1 x1 r1 z1 => ?_)
  exact (show PostS C X p0 H0 G0 H G Q (.nx env) s1 from q) H1 G1 σ g1.evo x1
theorem ss_ret {m : ME} {e : Expr} (he : SE C Γ k X .v m e) : SS C Γ k X (.ret m) (.Return (some e) pos) := by
  obtain ⟨te, a1, a2⟩ := he
  refine ⟨_, ps_ret a1, fun p0 H0 G0 H G s env σ Q x h => ?_⟩
  rw [run] at h
  refine a2 p0 H0 G0 H G s env σ _ x (W_mono (W_bind.mp h) fun d s1 q H1 G1 v fp g1 x1 r1 z1 => ?_)
  obtain ⟨n, f⟩ := z1 rfl
  exact (show PostS C X p0 H0 G0 H G Q (.ret d) s1 from q) H1 G1 v fp x1.grow x1.strm x1.gs r1 n fun a ha => grow_none x.grow x.pl (f a ha)
theorem getE_sem {i : Nat} {R : D → Strm → Prop} (h : W (getE env i) s R) : ∃ d, env[i]? = some (some d) ∧ R d s := by
  unfold getE at h
  split at h
  · exact ⟨_, ‹_›, h⟩
  · exact h.elim
theorem ss_retv {i : Nat} {x : Str} {px : Pos} (hN : X.N[i]? = some x) (hv : Vis X.env.scope x) (hd : (x == ("__debug__" : Str)) = false) (hcd : (x == ("__classdict__" : Str)) = false) : SS C Γ k X (.retv i) (.Return (some (.Name x px)) pos) := by
  refine ⟨_, ps_ret (pe_var hN hv hd hcd), fun p0 H0 G0 H G s env σ Q x h => ?_⟩
  rw [run] at h
  obtain ⟨d, e, q⟩ := getE_sem (W_bind.mp h)
  obtain ⟨fp, a, n, b⟩ := x.env
  obtain ⟨v, f, e1, e2, e3, e4, _⟩ := a.repl n e
  exact ⟨v, e1, (show PostS C X p0 H0 G0 H G Q (.ret d) s from q) H G v f x.grow x.strm x.gs e2 e4 fun a ha => b a (e3 a ha)⟩
theorem ss_retN : SS C Γ k X .retN (.Return none pos) := ⟨_, ps_retN, fun p0 H0 G0 H G s env σ Q x h => by
  rw [run] at h
  exact (show PostS C X p0 H0 G0 H G Q (.ret .non) s from h) H G .non [] x.grow x.strm x.gs non_rep .nil (by simp)⟩
theorem ss_pass : SS C Γ k X .pass (.Pass pos) := ⟨_, ps_pass, fun p0 H0 G0 H G s env σ Q x h => by
  rw [run] at h
  exact (show PostS C X p0 H0 G0 H G Q (.nx env) s from h) H G σ Grow.rfl'.evo x⟩
theorem ss_brk : SS C Γ k X .brk (.Break pos) := ⟨_, ps_break, fun p0 H0 G0 H G s env σ Q x h => by
  rw [run] at h
  exact (show PostS C X p0 H0 G0 H G Q (.brk env) s from h) H G σ Grow.rfl'.evo x⟩
theorem ss_cont : SS C Γ k X .cont (.Continue pos) := ⟨_, ps_continue, fun p0 H0 G0 H G s env σ Q x h => by
  rw [run] at h
  exact (show PostS C X p0 H0 G0 H G Q (.cont env) s from h) H G σ Grow.rfl'.evo x⟩
theorem ss_nev {m : MS} {e : Stmt} (hm : ∀ env s R, W (run (callF Γ k) env m) s R → False) : SS C Γ k X m e := ⟨_, ps_never, fun p0 H0 G0 H G s env σ Q x h => (hm _ _ _ h).elim⟩
theorem ss_ite {c : ME} {a b : MSs} {e : Expr} {as bs : List Stmt} (hc : ST C Γ k X c e) (ha : SSs C Γ k X a as) (hb : SSs C Γ k X b bs) : SS C Γ k X (.ite c a b) (.If e as bs pos) := by
  obtain ⟨tc, c1, c2⟩ := hc
  obtain ⟨ta, a1, a2⟩ := ha
  obtain ⟨tb, b1, b2⟩ := hb
  refine ⟨_, ps_if c1 a1 b1, fun p0 H0 G0 H G s env σ Q x h => ?_⟩
  rw [run] at h
  refine c2 p0 H0 G0 H G s env σ _ x (W_mono (W_bind.mp h) fun r s1 q H1 G1 g1 x1 => ?_)
  cases r with
  | true => exact ite2 (fun _ => a2 p0 H0 G0 H1 G1 s1 env σ Q x1 (W_mono q fun r s2 q => PostS.evo g1.evo q)) fun z => absurd rfl z
  | false => exact ite2 (fun z => by cases z) fun _ => b2 p0 H0 G0 H1 G1 s1 env σ Q x1 (W_mono q fun r s2 q => PostS.evo g1.evo q)
/-! ### loops -/
theorem StX.kill (x : StX X.K C p0 H0 G0 H G s env σ) (l : List Nat) : StX X.K C p0 H0 G0 H G s (kilE l env) σ := by
  obtain ⟨fp, a, n, b⟩ := x.env
  obtain ⟨fq, q1, q2, q3⟩ := RepE.kill l a n
  exact x.envs ⟨fq, q1, q2, fun y hy => b y (q3 y hy)⟩
theorem ss_loop (g : Gd C Γ Gs k X) {t : Tg} {m : MI} {body : MSs} {kill : List Nat} {tg iter : Expr} {bs : List Stmt} (hi : SI C Γ k X tg m iter) (hg : PG X tg (gT X.K t)) (hb : SSs C Γ k X body bs) (hs : ∀ x, foldedSetIterable iter X.env x = pure x) :
    SS C Γ k X (.loop t m body kill) (.For tg iter bs [] pos) := by
  obtain ⟨wi, i1, i2⟩ := hi
  obtain ⟨tb, b1, b2⟩ := hb
  refine ⟨_, ps_for g.po g.calm i1 hg b1 hs, fun p0 H0 G0 H G s env σ Q x h => ?_⟩
  rw [run] at h
  refine i2 p0 H0 G0 H G s env σ _ x (W_mono (W_bind.mp h) fun ds s1 q => ?_)
  obtain ⟨c2, q⟩ := W_guard.mp (W_bind.mp q)
  refine ⟨c2, fun H1 G1 J g1 x1 yl => ?_⟩
  let Inv : Nat → L2.St → Hp → Prop := fun i σ Hi => ∃ Gi si envi, Evo p0 H1 G1 Hi Gi ∧ StX X.K C p0 H0 G0 Hi Gi si envi σ ∧ W (forL (fun e => runs (callF Γ k) e body) t kill (ds.drop i) envi) si (PostS C X p0 H0 G0 H1 G1 Q)
  refine ⟨fun i mm σ Hi => mm = ds.length - i ∧ i ≤ ds.length ∧ Inv i σ Hi, ⟨ds.length, by simp, Nat.zero_le _, G1, s1, _, Grow.rfl'.evo, x1.kill kill, W_mono q fun r s2 q => PostS.evo g1.evo q⟩, ?_⟩
  rintro i mm σ Hi ⟨rfl, hle, Gi, si, envi, ei, xi, w⟩
  by_cases hlt : i < ds.length
  · obtain ⟨go, yld⟩ := yl.1 i ds[i] Hi Gi (List.getElem?_eq_getElem hlt) ei xi.pl
    refine .inr ⟨go, Inv (i + 1), fun σ' H' n => ⟨ds.length - (i + 1), by omega, rfl, hlt, n⟩, fun y H3 hy => ?_⟩
    obtain ⟨ex, ry⟩ := yld y H3 hy
    have x3 := xi.ex' ex
    have e3 : Evo p0 H1 G1 H3 Gi := ei.trans (grow_ex ex).evo
    rw [List.drop_eq_getElem_cons hlt] at w
    have w := W_bind.mp (show W (asgT t ds[i] envi >>= _) si _ from w)
    refine tg_sem t (x3.beside Grow.rfl' (Reps.cons ry Reps.nil) .nil (by simp)) w fun env' σ' q e => ?_
    have x4 := x3.envs e
    refine b2 p0 H0 G0 H3 Gi si env' σ' _ x4 (W_mono (W_bind.mp q) fun r s2 q => ?_)
    cases r with
    | nx e2 => exact fun H' G' σ2 e' x' => ⟨G', s2, _, e3.trans e', x'.kill kill, q⟩
    | cont e2 => exact fun H' G' σ2 e' x' => ⟨G', s2, _, e3.trans e', x'.kill kill, q⟩
    | brk e2 => exact fun H' G' σ2 e' x' => (show PostS C X p0 H0 G0 H1 G1 Q (.nx (kilE kill e2)) s2 from q) H' G' σ2 (e3.trans e') (x'.kill kill)
    | ret d => exact q
  · have e : i = ds.length := by omega
    subst e
    rw [List.drop_length] at w
    exact .inl ⟨yl.2 Hi Gi ei xi.pl, (show PostS C X p0 H0 G0 H1 G1 Q (.nx envi) si from w) Hi Gi σ ei xi⟩
theorem ss_while (g : Gd C Γ Gs k X) {fuel : Nat} {c : ME} {body : MSs} {kill : List Nat} {e : Expr} {bs : List Stmt} (hc : ST C Γ k X c e) (hb : SSs C Γ k X body bs) : SS C Γ k X (.while fuel c body kill) (.While e bs [] pos) := by
  obtain ⟨tc, c1, c2⟩ := hc
  obtain ⟨tb, b1, b2⟩ := hb
  refine ⟨_, ps_while g.po c1 b1, fun p0 H0 G0 H G s env σ Q x h => ?_⟩
  rw [run] at h
  let Inv : Nat → L2.St → Hp → Prop := fun n σ Hi => ∃ Gi si envi, Evo p0 H G Hi Gi ∧ StX X.K C p0 H0 G0 Hi Gi si envi σ ∧ W (whileL (fun e => tru (ev (callF Γ k) e .t c)) (fun e => runs (callF Γ k) e body) kill n envi) si (PostS C X p0 H0 G0 H G Q)
  refine ⟨Inv, ⟨fuel, G, s, _, Grow.rfl'.evo, x.kill kill, h⟩, ?_⟩
  rintro n σ Hi ⟨Gi, si, envi, ei, xi, w⟩
  cases n with
  | zero => exact w.elim
  | succ n =>
    refine c2 p0 H0 G0 Hi Gi si envi σ _ xi (W_mono (W_bind.mp w) fun r s1 q H1 G1 g1 x1 => ?_)
    have e1 := ei.trans g1.evo
    cases r with
    | false => exact ite2 (fun z => by cases z) fun _ => (show PostS C X p0 H0 G0 H G Q (.nx envi) s1 from q) H1 G1 σ e1 x1
    | true =>
      refine ite2 (fun _ => ⟨Inv n, fun σ' H' z => ⟨n, Nat.lt_succ_self n, z⟩, ?_⟩) fun z => absurd rfl z
      have q := W_bind.mp (show W (runs (callF Γ k) envi body >>= _) s1 _ from q)
      refine b2 p0 H0 G0 H1 G1 s1 envi σ _ x1 (W_mono q fun r s2 q => ?_)
      cases r with
      | nx e2 => exact fun H' G' σ2 e' x' => ⟨G', s2, _, e1.trans e', x'.kill kill, q⟩
      | cont e2 => exact fun H' G' σ2 e' x' => ⟨G', s2, _, e1.trans e', x'.kill kill, q⟩
      | brk e2 => exact fun H' G' σ2 e' x' => (show PostS C X p0 H0 G0 H G Q (.nx (kilE kill e2)) s2 from q) H' G' σ2 (e1.trans e') (x'.kill kill)
      | ret d => exact q
/-! ### blocks -/
theorem sss_nil : SSs C Γ k X .nil [] := ⟨_, pss_nil, fun p0 H0 G0 H G s env σ Q x h => by
  rw [runs] at h
  exact (show PostS C X p0 H0 G0 H G Q (.nx env) s from h) H G σ Grow.rfl'.evo x⟩
theorem sss_cons {m : MS} {ms : MSs} {e : Stmt} {es : List Stmt} (h1 : SS C Γ k X m e) (h2 : SSs C Γ k X ms es) : SSs C Γ k X (.cons m ms) (e :: es) := by
  obtain ⟨t, a1, a2⟩ := h1
  obtain ⟨u, b1, b2⟩ := h2
  refine ⟨_, pss_cons a1 b1, fun p0 H0 G0 H G s env σ Q x h => ?_⟩
  rw [runs] at h
  refine a2 p0 H0 G0 H G s env σ _ x (W_mono (W_bind.mp h) fun r s1 q => ?_)
  cases r with
  | nx e2 => exact fun H' G' σ' e' x' => b2 p0 H0 G0 H' G' s1 e2 σ' Q x' (W_mono q fun r s2 q => PostS.evo e' q)
  | brk e2 => exact q
  | cont e2 => exact q
  | ret d => exact q
theorem sss_frz {i : Nat} {ms : MSs} {es : List Stmt} (h2 : SSs C Γ k X ms es) : SSs C Γ k X (.cons (.frz i) ms) es := by
  obtain ⟨u, b1, b2⟩ := h2
  refine ⟨u, b1, fun p0 H0 G0 H G s env σ Q x h => ?_⟩
  rw [runs] at h
  have h := W_bind.mp h
  rw [run] at h
  obtain ⟨d, e, q⟩ := getE_sem (W_bind.mp h)
  have q : W (runs (callF Γ k) (setE env i d.strip) ms) s (PostS C X p0 H0 G0 H G Q) := q
  obtain ⟨fp, re, n, b⟩ := x.env
  obtain ⟨v, f, e1, r, e3, e4, _, h2, _⟩ := re.repl n e
  obtain ⟨fq, q1, q2, q3⟩ := h2 d.strip (fun a => G a ∨ a ∈ f) [] (fun a z => .inl z) (fun a ha hf z => z.elim (fun z => (re.mem a ha).1 z) hf) (r.lend (fun _ z => .inl z) fun a ha => .inr ha) .nil (by simp)
  refine b2 p0 H0 G0 H (fun a => G a ∨ a ∈ f) s _ σ Q ⟨⟨x.grow.keep, fun p z => .inl (x.grow.gs p z), fun p o np z h => z.elim (fun z => x.grow.new p o np z h) fun z => absurd ((b p (e3 p z)).symm.trans h) (by simp), x.grow.hd⟩, fun p hp => ?_, fun p hp => ?_, fq, q1, q2, fun y hy => ?_⟩ (W_mono q fun r s2 q => PostS.evo ⟨fun _ _ _ h _ => h, fun _ h => .inl h⟩ q)
  · obtain ⟨pc, a1, a2, a3, a4, a5⟩ := x.strm p hp
    exact ⟨pc, a1, a2, a3, .inl a4, a5⟩
  · rcases hp with hp | hp
    · exact x.gs p hp
    · obtain ⟨_, a, xs, b⟩ := re.mem p (e3 p hp)
      exact ⟨a, _, b⟩
  · rcases q3 y hy with z | z
    · cases z
    · exact b y z.1
theorem sss_kil {l : List Nat} {ms : MSs} {es : List Stmt} (h2 : SSs C Γ k X ms es) : SSs C Γ k X (.cons (.kil l) ms) es := by
  obtain ⟨u, b1, b2⟩ := h2
  refine ⟨u, b1, fun p0 H0 G0 H G s env σ Q x h => ?_⟩
  rw [runs] at h
  have h := W_bind.mp h
  rw [run] at h
  exact b2 p0 H0 G0 H G s _ σ Q (x.kill l) h
end
end Mp

namespace Mp
open PySem PySem.Spec
open PyProof.Rows L2
section
variable {C : Addr} {Γ : String → Option MDef} {Gs : String → Option Int} {k : Nat} {X : Cx} {p0 : Option Addr} {H H1 H2 H' H0 : Hp} {G G1 G2 G' G0 : GS} {s s2 s' : Strm} {env : En} {σ : L2.St} {d : D} {v : V} {fp : List Addr} {st : Bool}
variable {p : Md} {pos pos' : Pos} {j : Nat}
theorem own_of {K : PySem.W.Frag} {ds : List D} {f : List Addr} (r : Rep K C p0 H G (.lst true ds) v f) (n : f.Nodup) : ∃ p vs f', v = .ref p ∧ H p = some (.lst vs) ∧ some p ≠ p0 ∧ Reps K C p0 H G ds vs f' ∧ ¬ G p ∧ f = p :: f' ∧ p ∉ f' ∧ f'.Nodup := by
  rw [Rep] at r
  obtain ⟨p, vs, f', e, q1, np, q2, q3⟩ := r
  rcases q3 with ⟨_, b, c⟩ | ⟨a, _⟩
  · rw [c] at n
    obtain ⟨n1, n2⟩ := List.nodup_cons.mp n
    exact ⟨p, vs, f', e, q1, np, q2, b, c, n1, n2⟩
  · cases a
/-- a list of one's own at slot i, written -/
theorem own_write {i : Nat} {ds : List D} {fe : List Addr} (x : StX X.K C p0 H0 G0 H G s env σ) (re : RepE X.K C p0 H G env σ fe) (n : fe.Nodup) (f0 : ∀ a ∈ fe, H0 a = none) (e : env[i]? = some (some (.lst true ds))) :
    ∃ p vs f, σ[i]? = some (some (.ref p)) ∧ H p = some (.lst vs) ∧ Reps X.K C p0 H G ds vs f ∧ f.Nodup ∧ p ∉ f ∧ p ∈ fe ∧ (∀ a ∈ f, a ∈ fe) ∧ ¬ G p ∧
      ∀ ds' vs' f', Reps X.K C p0 H G ds' vs' f' → f'.Nodup → (∀ a ∈ f', (a ∈ f ∨ a ∉ fe) ∧ H0 a = none) → ∃ fq, RepE X.K C p0 (upd H p (.lst vs')) G (setE env i (.lst true ds')) σ fq ∧ fq.Nodup ∧ (∀ a ∈ fq, a = p ∨ a ∈ f' ∨ (a ∈ fe ∧ a ∉ f)) ∧
        StX X.K C p0 H0 G0 (upd H p (.lst vs')) G s (setE env i (.lst true ds')) σ ∧ Evo p0 H G (upd H p (.lst vs')) G := by
  obtain ⟨v, f1, e1, r, sub, n1, h1, _⟩ := re.repl n e
  obtain ⟨p, vs, f, rfl, hp, np, rs, nG, rfl, np2, n2⟩ := own_of r n1
  have pin : p ∈ fe := sub p List.mem_cons_self
  refine ⟨p, vs, f, e1, hp, rs, n2, np2, pin, fun a ha => sub a (List.mem_cons_of_mem _ ha), nG, fun ds' vs' f' rs' n' sub' => ?_⟩
  have npf : p ∉ f' := fun z => by
    rcases (sub' p z).1 with q | q
    · exact np2 q
    · exact q pin
  have rl : Rep X.K C p0 (upd H p (.lst vs')) G (.lst true ds') (.ref p) (p :: f') := by
    rw [Rep]
    exact ⟨p, vs', f', rfl, upd_same, np, Reps.wrt hp nG rs' npf, .inl ⟨rfl, nG, rfl⟩⟩
  obtain ⟨fq, q1, q2, q3⟩ := h1 p vs vs' _ (p :: f') List.mem_cons_self hp nG rl (List.nodup_cons.mpr ⟨npf, n'⟩) fun a ha => by
    rcases List.mem_cons.mp ha with rfl | ha
    · exact .inl List.mem_cons_self
    · exact (sub' a ha).1.imp (fun z => List.mem_cons_of_mem _ z) id
  have q4 : ∀ a ∈ fq, a = p ∨ a ∈ f' ∨ (a ∈ fe ∧ a ∉ f) := fun a ha => by
    rcases q3 a ha with z | z
    · exact (List.mem_cons.mp z).imp id .inl
    · exact .inr (.inr ⟨z.1, fun y => z.2 (List.mem_cons_of_mem _ y)⟩)
  refine ⟨fq, q1, q2, q4, ⟨x.grow.wrt (f0 p pin), x.strm.wrt hp np nG, gs_wrt x.gs hp, fq, q1, q2, fun a ha => ?_⟩, ⟨fun q o nq hq z => ?_, fun _ h => h⟩⟩
  · rcases q4 a ha with rfl | z | z
    · exact f0 _ pin
    · exact (sub' a z).2
    · exact f0 a z.1
  · have : q ≠ p := fun y => by
      subst y
      rcases z with z | z
      · exact nG z
      · rw [hp] at hq
        exact z _ (Option.some.inj hq).symm
    rw [upd_ne this]
    exact hq
theorem pe_v {i : Nat} {x : Str} {px : Pos} (hN : X.N[i]? = some x) (hv : Vis X.env.scope x) (hd : (x == ("__debug__" : Str)) = false) (hcd : (x == ("__classdict__" : Str)) = false) : PE X (.Name x px) (tVar i) := pe_var hN hv hd hcd
/-- a slot's name as the text has it -/
structure Nm (X : Cx) (i : Nat) (x : Str) : Prop where
  hN : X.N[i]? = some x
  hv : Vis X.env.scope x
  hd : (x == ("__debug__" : Str)) = false
  hcd : (x == ("__classdict__" : Str)) = false
theorem Nm.pe {i : Nat} {x : Str} {px : Pos} (n : Nm X i x) : PE X (.Name x px) (tVar i) := pe_var n.hN n.hv n.hd n.hcd
theorem setAt_at {ds : List D} {i : Int} {d : D} {r : List D} (h : setAt ds i d = some r) : ∃ j, pix ds.length i = some j ∧ r = ds.set j d := by
  unfold setAt at h
  cases e : pix ds.length i with
  | none => rw [e] at h; cases h
  | some j => rw [e] at h; cases h; exact ⟨j, rfl, rfl⟩
theorem pix_lt {n : Nat} {i : Int} {j : Nat} (h : pix n i = some j) : j < n := (ixN_seq (show ixN n i = some j from h)).2.1
theorem ss_app {i : Nat} {x : Str} {m : ME} {e : Expr} {px apos cpos : Pos} (n : Nm X i x) (he : SE C Γ k X .v m e) (hs : starEach (e :: []) X.env = (false, eval e X.env) :: starEach [] X.env)
    (hfew : ((backTo cpos (starEach (e :: []) X.env)).all (fun x => !x.1) && (backToKw cpos (keywordEach [] X.env)).all (fun x => x.1.isSome) && decide ((e :: ([] : List Expr)).length + ([] : List Keyword).length + (if ([] : List Keyword).isEmpty then 0 else 1) < 30)) = true) (hline : (apos.endLine == cpos.line) = true) :
    SS C Γ k X (.app i m) (.Expr (.Call (.Attribute (.Name x px) "append" apos) [e] [] cpos) pos) := by
  obtain ⟨te, a1, a2⟩ := he
  refine ⟨_, ps_expr (pe_bm PySem.F.plainAttrs_list PySem.F.slot_list_append PySem.F.type_list_append mt_append n.pe (pa_cons a1 pa_nil hs) rfl hfew hline hs rfl) rfl, fun p0 H0 G0 H G s env σ Q x h => ?_⟩
  rw [run] at h
  -- what the slot holds is looked at first; the text reads it first too
  have h := W_bind.mp h
  have look : ∃ ds, env[i]? = some (some (.lst true ds)) := by
    unfold W at h
    cases hm : ev (callF Γ k) env .v m s with
    | ok d s1 =>
      rw [hm] at h
      obtain ⟨o, e1, q⟩ := getE_sem (W_bind.mp (show W _ s1 _ from h))
      have q := W_bind.mp q
      unfold appD at q
      split at q
      · exact ⟨_, e1⟩
      · exact q.elim
    | err c s1 => rw [hm] at h; exact h.elim
    | bad => rw [hm] at h; exact h.elim
  obtain ⟨ds, e1⟩ := look
  obtain ⟨fe, re, nn, f0⟩ := x.env
  obtain ⟨p1, vs, f, es, hp, rs, nf, npf, pin, sub, nG, wr⟩ := own_write x re nn f0 e1
  refine ⟨_, es, .inl ⟨rfl, _, SqL.of hp⟩, a2 p0 H0 G0 H G s env σ _ x (W_mono h fun d s1 q H1 G1 v fp g1 x1 r1 z1 => ?_)⟩
  obtain ⟨o, e1', q⟩ := getE_sem (W_bind.mp q)
  rw [e1] at e1'
  cases e1'
  obtain ⟨c, q⟩ := W_guard.mp (W_bind.mp (W_bind.mp q))
  have q : PostS C X p0 H0 G0 H G Q (.nx (setE env i (.lst true (ds ++ [d])))) s1 := q
  obtain ⟨n1, fr⟩ := z1 rfl
  have re1 := re.grow x.pl g1
  obtain ⟨p2, vs2, f2, es2, hp2, rs2, nf2, npf2, pin2, sub2, nG2, wr2⟩ := own_write x1 re1 nn f0 e1
  rw [es] at es2
  cases es2
  refine ⟨p1, vs2, v, rfl, rfl, hp2, by rw [← rs2.length]; exact lim_size' c, ?_⟩
  have dis : ∀ a ∈ fp, a ∉ fe := fun a ha hb => by
    obtain ⟨_, _, xs, z⟩ := re.mem a hb
    rw [fr a ha] at z
    cases z
  obtain ⟨fq, _, _, _, x3, ev3⟩ := wr2 (ds ++ [d]) (vs2 ++ [v]) (f2 ++ (fp ++ [])) (Reps.append rs2 (Reps.cons r1 Reps.nil)) (by
    rw [List.append_nil]
    exact nodup_app.mpr ⟨nf2, n1, fun a h1 h2 => dis a h2 (sub2 a h1)⟩) fun a ha => by
      rw [List.append_nil] at ha
      rcases List.mem_append.mp ha with z | z
      · exact ⟨.inl z, f0 a (sub2 a z)⟩
      · exact ⟨.inr (dis a z), grow_none x.grow x.pl (fr a z)⟩
  exact q _ _ σ (g1.evo.trans ev3) x3
end
end Mp

namespace Mp
open PySem PySem.Spec
open PyProof.Rows L2
theorem W_ex {α : Type} {m : M α} {s : Strm} {Q : α → Strm → Prop} (h : W m s Q) : ∃ a s', Q a s' := by
  unfold W at h
  cases e : m s with
  | ok a s' => rw [e] at h; exact ⟨a, s', h⟩
  | err c s' => rw [e] at h; exact h.elim
  | bad => rw [e] at h; exact h.elim
section
variable {C : Addr} {Γ : String → Option MDef} {Gs : String → Option Int} {k : Nat} {X : Cx} {p0 : Option Addr} {H H1 H2 H' H0 : Hp} {G G1 G2 G' G0 : GS} {s s2 s' : Strm} {env : En} {σ : L2.St} {d : D} {v : V} {fp : List Addr} {st : Bool}
variable {p : Md} {pos pos' : Pos} {j : Nat}
theorem not_in_env {fe f : List Addr} (re : RepE X.K C p0 H G env σ fe) (fr : ∀ a ∈ f, H a = none) : ∀ a ∈ f, a ∉ fe := fun a ha hb => by
  obtain ⟨_, _, xs, z⟩ := re.mem a hb
  rw [fr a ha] at z
  cases z
/-! ### x[k] = e -/
theorem strm_set {pp : Addr} {vs : List V} {j : Nat} {z : V} {s3 : Strm} (x : StX X.K C p0 H0 G0 H G s env σ) (hp : p0 = some pp) (hl : ∃ pc, vs = [.ref pc, .int s3.cell, .int s3.ix, .int s3.mixed] ∧ ∃ ys, H pp = some (.lst (.ref pc :: ys))) (hc : s3.cells = s.cells) : StX X.K C p0 H0 G0 (upd H pp (.lst vs)) G s3 env σ ∧ Grow p0 H G (upd H pp (.lst vs)) G := by
  obtain ⟨pc, rfl, ys, hy⟩ := hl
  obtain ⟨pc', a1, a2, a3, a4, a5⟩ := x.strm pp hp
  rw [hy] at a1
  injection a1 with a1
  injection a1 with a1
  injection a1 with a1 _
  injection a1 with a1
  subst a1
  have gr : Grow p0 H G (upd H pp (.lst [.ref pc, .int s3.cell, .int s3.ix, .int s3.mixed])) G := ⟨fun q o np h => by rw [upd_ne fun z => np (by rw [z, hp])]; exact h, fun _ h => h, fun _ _ _ h _ => h, fun q y xs e h => by
    rw [hp] at e
    cases e
    rw [hy] at h
    injection h with h
    injection h with h
    injection h with h _
    subst h
    exact ⟨_, upd_same⟩⟩
  refine ⟨⟨x.grow.trans gr, fun q hq => ?_, fun q hq => ?_, ?_⟩, gr⟩
  · rw [hp] at hq
    cases hq
    exact ⟨pc, upd_same, by rw [upd_ne a3, hc]; exact a2, a3, a4, by rw [hc]; exact a5⟩
  · obtain ⟨np, o, h⟩ := x.gs q hq
    exact ⟨np, o, gr.keep _ _ np h⟩
  · obtain ⟨fe, re, n, f⟩ := x.env
    exact ⟨fe, re.grow x.pl gr, n, f⟩
theorem ss_set1 {i : Nat} {x : Str} {mk me : ME} {ek e : Expr} {px ps : Pos} (n : Nm X i x) (hk : SE C Γ k X .v mk ek) (he : SE C Γ k X .v me e) (hpl : PlainIx ek) (hs : swapsWithSole [.Subscript (.Name x px) ek ps] e pos.line X.env = pure false) (hg : ∀ {to ti : TE}, PE X (.Name x px) to → PE X ek ti → PG X (.Subscript (.Name x px) ek ps) (gSub to ti rSetL)) :
    SS C Γ k X (.set1 i mk me) (.Assign [.Subscript (.Name x px) ek ps] e pos) := by
  obtain ⟨te, a1, a2⟩ := he
  obtain ⟨tk, b1, b2⟩ := hk
  refine ⟨_, ps_asg a1 (hg n.pe b1) hs rfl rfl, fun p0 H0 G0 H G s env σ Q x h => ?_⟩
  rw [run] at h
  refine a2 p0 H0 G0 H G s env σ _ x (W_mono (W_bind.mp h) fun d s1 q H1 G1 v fv g1 x1 r1 z1 => ?_)
  have q := W_bind.mp q
  obtain ⟨d0, s0, q0⟩ := W_ex q
  obtain ⟨o, e1, _⟩ := getE_sem (W_bind.mp q0)
  obtain ⟨w, f0, es, _, _⟩ := x1.look e1
  refine ⟨w, es, b2 p0 H0 G0 H1 G1 s1 env σ _ x1 (W_mono q fun kd s2 q H2 G2 kv fk g2 x2 r2 z2 => ?_)⟩
  obtain ⟨o', e1', q⟩ := getE_sem (W_bind.mp q)
  rw [e1] at e1'
  cases e1'
  have q := W_bind.mp q
  obtain ⟨nv, fv0⟩ := z1 rfl
  obtain ⟨fe, re, nn, fe0⟩ := x.env
  have g12 := g1.trans g2
  have re2 := re.grow x.pl g12
  have r1' := r1.grow x1.pl g2
  have ko : (∃ ds i0, o = .lst true ds ∧ kd = .int i0) ∨ ∃ i0 z0, o = .strm ∧ kd = .int i0 ∧ d = .int z0 := by
    unfold set1D at q
    split at q
    · exact .inl ⟨_, _, rfl, rfl⟩
    · split at q
      · exact .inr ⟨_, _, rfl, rfl, rfl⟩
      · exact q.elim
    · exact q.elim
  rcases ko with ⟨ds, i0, rfl, rfl⟩ | ⟨i0, z0, rfl, rfl, rfl⟩
  · obtain ⟨r, er, q⟩ := W_ofO.mp (W_bind.mp (show W (ofO (setAt ds i0 d) >>= fun r => pure (D.lst true r)) s2 _ from q))
    have q : PostS C X p0 H0 G0 H G Q (.nx (setE env i (.lst true r))) s2 := q
    obtain ⟨j, hj, rfl⟩ := setAt_at er
    obtain ⟨p1, vs, f, es', hp, rs, nf, npf, pin, sub, nG, wr⟩ := own_write x2 re2 nn fe0 e1
    rw [es] at es'
    cases es'
    have hjl := pix_lt hj
    obtain ⟨_, _, _, _, _, _, _, h2, _⟩ := rs.repl nf (List.getElem?_eq_getElem hjl)
    have dis := not_in_env re fv0
    obtain ⟨fq, q1, q2, q3⟩ := h2 d v fv r1' nv fun a ha hb => dis a ha (sub a hb)
    obtain ⟨_, _, _, _, x3, ev3⟩ := wr _ _ fq q1 q2 fun a ha => by
      rcases q3 a ha with z | z
      · exact ⟨.inr (dis a z), grow_none x.grow x.pl (fv0 a z)⟩
      · exact ⟨.inl z.1, fe0 a (sub a z.1)⟩
    rw [int_of r2]
    exact ⟨p1, vs, _, j, rfl, rfl, hp, by rw [← rs.length]; exact hj, q _ _ σ (g12.evo.trans ev3) x3⟩
  · have q := W_getS.mp (W_bind.mp (show W (getS >>= fun s =>
      (if i0 = 1 then setS { s with cell := z0 } >>= fun _ => pure .strm
      else if i0 = 2 then setS { s with ix := z0 } >>= fun _ => pure .strm
      else if i0 = 3 then setS { s with mixed := z0 } >>= fun _ => pure .strm
      else bad : M D)) s2 _ from q))
    obtain ⟨w', fw, es', rw', _⟩ := x2.look e1
    rw [es] at es'
    cases es'
    rw [Rep] at rw'
    obtain ⟨pp, hp, rfl, _⟩ := rw'
    obtain ⟨pc, b1, b2, b3, b4, b5⟩ := x2.strm pp hp
    rw [int_of r2]
    have hv : v = .int z0 := int_of r1'
    have fin : ∀ {s3 : Strm} {j : Nat}, s3.cells = s2.cells → [V.ref pc, V.int s3.cell, V.int s3.ix, V.int s3.mixed] = ([V.ref pc, V.int s2.cell, V.int s2.ix, V.int s2.mixed] : List V).set j v → ixN 4 i0 = some j → W (pure D.strm : M D) s3 (fun a s' => W (pure (Fl.nx (setE env i a)) : M Fl) s' (PostS C X p0 H0 G0 H G Q)) → rSetL (.ref pp) (.int i0) v H2 fun H3 => Q.nx σ H3 := by
      intro s3 j hc hv hj q
      have q : PostS C X p0 H0 G0 H G Q (.nx (setE env i .strm)) s3 := q
      refine ⟨pp, _, i0, j, rfl, rfl, b1, hj, ?_⟩
      rw [← hv]
      obtain ⟨x3, g3⟩ := strm_set (s3 := s3) (j := j) (z := v) x2 hp ⟨pc, rfl, _, b1⟩ hc
      have : setE env i .strm = env := by
        unfold setE
        apply List.ext_getElem?
        intro l
        by_cases hl : i = l
        · subst hl
          have hil := (List.getElem?_eq_some_iff.mp e1).1
          rw [List.getElem?_set_self hil, e1]
        · rw [List.getElem?_set_ne hl]
      rw [this] at q
      exact q _ _ σ (g12.trans g3).evo x3
    have q := W_ite.mp q
    by_cases i1 : i0 = 1
    · rw [if_pos i1] at q
      subst i1
      exact fin (s3 := { s2 with cell := z0 }) (j := 1) rfl (by rw [hv] <;> rfl) rfl (W_bind.mp q)
    · rw [if_neg i1] at q
      have q := W_ite.mp q
      by_cases i2 : i0 = 2
      · rw [if_pos i2] at q
        subst i2
        exact fin (s3 := { s2 with ix := z0 }) (j := 2) rfl (by rw [hv] <;> rfl) rfl (W_bind.mp q)
      · rw [if_neg i2] at q
        have q := W_ite.mp q
        by_cases i3 : i0 = 3
        · rw [if_pos i3] at q
          subst i3
          exact fin (s3 := { s2 with mixed := z0 }) (j := 3) rfl (by rw [hv] <;> rfl) rfl (W_bind.mp q)
        · rw [if_neg i3] at q
          exact q.elim
/-! ### x[k][l] = e -/
theorem ss_set2 {i : Nat} {x : Str} {mk ml me : ME} {ek el e : Expr} {px ps ps2 : Pos} (n : Nm X i x) (hk : SE C Γ k X .v mk ek) (hl : SE C Γ k X .v ml el) (he : SE C Γ k X .v me e) (hpk : PlainIx ek) (hs : swapsWithSole [.Subscript (.Subscript (.Name x px) ek ps2) el ps] e pos.line X.env = pure false)
    (hg : ∀ {to ti : TE}, PE X (.Subscript (.Name x px) ek ps2) to → PE X el ti → PG X (.Subscript (.Subscript (.Name x px) ek ps2) el ps) (gSub to ti rSetL)) :
    SS C Γ k X (.set2 i mk ml me) (.Assign [.Subscript (.Subscript (.Name x px) ek ps2) el ps] e pos) := by
  obtain ⟨te, a1, a2⟩ := he
  obtain ⟨tk, b1, b2⟩ := hk
  obtain ⟨tl, c1, c2⟩ := hl
  refine ⟨_, ps_asg a1 (hg (pe_ix ix_seq n.pe b1 hpk) c1) hs rfl rfl, fun p0 H0 G0 H G s env σ Q x h => ?_⟩
  rw [run] at h
  refine a2 p0 H0 G0 H G s env σ _ x (W_mono (W_bind.mp h) fun d s1 q H1 G1 v fv g1 x1 r1 z1 => ?_)
  have q := W_bind.mp q
  obtain ⟨d0, s0, q0⟩ := W_ex q
  obtain ⟨d0', s0', q0⟩ := W_ex (W_bind.mp q0)
  obtain ⟨o, e1, q0⟩ := getE_sem (W_bind.mp q0)
  obtain ⟨w, f0, es, _, _⟩ := x1.look e1
  refine ⟨w, es, b2 p0 H0 G0 H1 G1 s1 env σ _ x1 (W_mono q fun kd s2 q H2 G2 kv fk g2 x2 r2 z2 => ?_)⟩
  have q := W_bind.mp q
  obtain ⟨ld0, s00, q00⟩ := W_ex q
  obtain ⟨o', e1', q00⟩ := getE_sem (W_bind.mp q00)
  rw [e1] at e1'
  cases e1'
  -- what is looked at for the inner list
  have inner : ∃ ds i0 j rs, o = .lst true ds ∧ kd = .int i0 ∧ pix ds.length i0 = some j ∧ ds[j]? = some (.lst true rs) := by
    have q00 := W_bind.mp q00
    unfold set2D at q00
    split at q00
    · obtain ⟨r, er, q00⟩ := W_ofO.mp (W_bind.mp q00)
      split at q00
      · rename_i rs m _ _
        cases ej : pix _ _ with
        | none => rw [ej] at er; cases er
        | some j =>
          rw [ej] at er
          exact ⟨_, _, j, _, rfl, rfl, ej, er⟩
      · exact q00.elim
    · exact q00.elim
  obtain ⟨ds, i0, j, rs, rfl, rfl, hj, hjr⟩ := inner
  obtain ⟨nv, fv0⟩ := z1 rfl
  obtain ⟨fe, re, nn, fe0⟩ := x.env
  have g12 := g1.trans g2
  have re2 := re.grow x.pl g12
  obtain ⟨p1, vs, f, es', hp, rs1, nf, npf, pin, sub, nG, wr⟩ := own_write x2 re2 nn fe0 e1
  rw [es] at es'
  cases es'
  obtain ⟨iv, fi, hiv, ri, subi, ni, k1, _, _⟩ := rs1.repl nf hjr
  obtain ⟨q1, ws, g, rfl, hq, npq, rq, nGq, efi, nqg, ng⟩ := own_of ri ni
  rw [int_of r2]
  refine .inl ⟨p1, vs, i0, .ref q1, rfl, rfl, SqL.of hp, ?_, ?_⟩
  · unfold atI
    show (pix vs.length i0).bind _ = _
    rw [← rs1.length, hj]
    exact hiv
  refine c2 p0 H0 G0 H2 G2 s2 env σ _ x2 (W_mono q fun ld s3 q H3 G3 lv fl g3 x3 r3 z3 => ?_)
  obtain ⟨o', e1', q⟩ := getE_sem (W_bind.mp q)
  rw [e1] at e1'
  cases e1'
  have q := W_bind.mp q
  have g13 := g12.trans g3
  have re3 := re.grow x.pl g13
  have r1' := (r1.grow x1.pl g2).grow x2.pl g3
  have kl : ∃ m, ld = .int m := by
    unfold set2D at q
    dsimp only at q
    obtain ⟨r, er, q⟩ := W_ofO.mp (W_bind.mp q)
    split at q
    · exact ⟨_, rfl⟩
    · exact q.elim
  obtain ⟨m, rfl⟩ := kl
  obtain ⟨r, er, q⟩ := W_ofO.mp (W_bind.mp (show W (ofO ((pix ds.length i0).bind fun j => ds[j]?) >>= fun r => (match r, D.int m with
    | .lst true rs, .int m => do
      let r' ← ofO (setAt rs m d)
      let q ← ofO (setAt ds i0 (.lst true r'))
      pure (.lst true q)
    | _, _ => bad : M D)) s3 _ from q))
  rw [hj] at er
  have er : ds[j]? = some r := er
  rw [hjr] at er
  cases er
  · obtain ⟨r', er', q⟩ := W_ofO.mp (W_bind.mp (show W (ofO (setAt rs m d) >>= fun r' => ofO (setAt ds i0 (.lst true r')) >>= fun q => pure (D.lst true q)) s3 _ from q))
    obtain ⟨ds', ed', q⟩ := W_ofO.mp (W_bind.mp q)
    have q : PostS C X p0 H0 G0 H G Q (.nx (setE env i (.lst true ds'))) s3 := q
    obtain ⟨jm, hjm, rfl⟩ := setAt_at er'
    obtain ⟨jd, hjd, rfl⟩ := setAt_at ed'
    rw [hj] at hjd
    cases hjd
    -- the state at the write
    obtain ⟨v3, f3, e3, rr3, sub3, n3, h3, _⟩ := re3.repl nn e1
    rw [es] at e3
    cases e3
    obtain ⟨p1', vs', f', ep, hp3, np3, rs3, nG3, rfl, npf3, nf3⟩ := own_of rr3 n3
    cases ep
    have hp' := g3.keep _ _ np3 hp
    rw [hp3] at hp'
    cases hp'
    obtain ⟨iv3, fi3, hiv3, ri3, subi3, ni3, k3, _, _⟩ := rs3.repl nf3 hjr
    rw [hiv] at hiv3
    cases hiv3
    obtain ⟨q1', ws', g', eq', hq3, npq3, rq3, nGq3, rfl, nqg3, ng3⟩ := own_of ri3 ni3
    cases eq'
    have hjml := pix_lt hjm
    obtain ⟨_, _, _, _, _, _, _, l2, _⟩ := rq3.repl ng3 (List.getElem?_eq_getElem hjml)
    have dis := not_in_env re fv0
    have gsub : ∀ a ∈ g', a ∈ fe := fun a ha => sub3 a (List.mem_cons_of_mem _ (subi3 a (List.mem_cons_of_mem _ ha)))
    have qin : q1 ∈ f' := subi3 q1 List.mem_cons_self
    have qfe : q1 ∈ fe := sub3 q1 (List.mem_cons_of_mem _ qin)
    obtain ⟨gq, u1, u2, u3⟩ := l2 d v fv r1' nv fun a ha hb => dis a ha (gsub a hb)
    have nqgq : q1 ∉ gq := fun z => by
      rcases u3 q1 z with y | y
      · exact dis q1 y qfe
      · exact nqg3 y.1
    have rin : Rep X.K C p0 (upd H3 q1 (.lst (ws'.set jm v))) G3 (.lst true (rs.set jm d)) (.ref q1) (q1 :: gq) := by
      rw [Rep]
      exact ⟨q1, _, gq, rfl, upd_same, npq3, Reps.wrt hq3 nGq3 u1 nqgq, .inl ⟨rfl, nGq3, rfl⟩⟩
    obtain ⟨fq, w1, w2, w3⟩ := k3 q1 ws' (ws'.set jm v) _ (q1 :: gq) List.mem_cons_self hq3 nGq3 rin (List.nodup_cons.mpr ⟨nqgq, u2⟩) fun a ha => by
      rcases List.mem_cons.mp ha with rfl | ha
      · exact .inl List.mem_cons_self
      · rcases u3 a ha with y | y
        · exact .inr fun z => dis a y (sub3 a (List.mem_cons_of_mem _ z))
        · exact .inl (List.mem_cons_of_mem _ y.1)
    have w3' : ∀ a ∈ fq, a ∈ fv ∨ a ∈ f' := fun a ha => by
      rcases w3 a ha with y | y
      · rcases List.mem_cons.mp y with rfl | y
        · exact .inr qin
        · rcases u3 a y with z | z
          · exact .inl z
          · exact .inr (subi3 a (List.mem_cons_of_mem _ z.1))
      · exact .inr y.1
    have npq1 : p1 ≠ q1 := fun z => npf3 (z ▸ qin)
    have npfq : p1 ∉ fq := fun z => by
      rcases w3' p1 z with y | y
      · exact dis p1 y (sub3 p1 List.mem_cons_self)
      · exact npf3 y
    have rout : Rep X.K C p0 (upd H3 q1 (.lst (ws'.set jm v))) G3 (.lst true (ds.set j (.lst true (rs.set jm d)))) (.ref p1) (p1 :: fq) := by
      rw [Rep]
      exact ⟨p1, _, fq, rfl, by rw [upd_ne npq1]; exact hp3, np3, w1, .inl ⟨rfl, nG3, rfl⟩⟩
    obtain ⟨fr, t1, t2, t3⟩ := h3 q1 ws' (ws'.set jm v) _ (p1 :: fq) (List.mem_cons_of_mem _ qin) hq3 nGq3 rout (List.nodup_cons.mpr ⟨npfq, w2⟩) fun a ha => by
      rcases List.mem_cons.mp ha with rfl | ha
      · exact .inl List.mem_cons_self
      · rcases w3' a ha with y | y
        · exact .inr fun z => dis a y z
        · exact .inl (List.mem_cons_of_mem _ y)
    have x4 : StX X.K C p0 H0 G0 (upd H3 q1 (.lst (ws'.set jm v))) G3 s3 (setE env i (.lst true (ds.set j (.lst true (rs.set jm d))))) σ := by
      refine ⟨x3.grow.wrt (fe0 q1 qfe), x3.strm.wrt hq3 npq3 nGq3, gs_wrt x3.gs hq3, fr, t1, t2, fun a ha => ?_⟩
      rcases t3 a ha with y | y
      · rcases List.mem_cons.mp y with rfl | y
        · exact fe0 _ (sub3 _ List.mem_cons_self)
        · rcases w3' a y with z | z
          · exact grow_none x.grow x.pl (fv0 a z)
          · exact fe0 a (sub3 a (List.mem_cons_of_mem _ z))
      · exact fe0 a y.1
    have ev4 : Evo p0 H3 G3 (upd H3 q1 (.lst (ws'.set jm v))) G3 := ⟨fun y o ny hy z => by
      have : y ≠ q1 := fun e => by
        subst e
        rcases z with z | z
        · exact nGq3 z
        · rw [hq3] at hy
          exact z _ (Option.some.inj hy).symm
      rw [upd_ne this]
      exact hy, fun _ h => h⟩
    rw [int_of r3]
    exact ⟨q1, ws', m, jm, rfl, rfl, hq3, by rw [← rq3.length]; exact hjm, q _ _ σ (g13.evo.trans ev4) x4⟩
end
end Mp

namespace Mp
open PySem PySem.Spec
open PyProof.Rows L2
section
variable {C : Addr} {Γ : String → Option MDef} {Gs : String → Option Int} {k : Nat} {X : Cx} {p0 : Option Addr} {H H1 H2 H' H0 : Hp} {G G1 G2 G' G0 : GS} {s s2 s' : Strm} {env : En} {σ : L2.St} {d : D} {v : V} {fp : List Addr} {st : Bool}
variable {p : Md} {pos pos' : Pos} {j : Nat}
/-- a method's call on one line, its arguments plain -/
structure Ln (X : Cx) (es : List Expr) (apos cpos : Pos) : Prop where
  hfew : ((backTo cpos (starEach es X.env)).all (fun x => !x.1) && (backToKw cpos (keywordEach [] X.env)).all (fun x => x.1.isSome) && decide (es.length + ([] : List Keyword).length + (if ([] : List Keyword).isEmpty then 0 else 1) < 30)) = true
  hline : (apos.endLine == cpos.line) = true
theorem lst_look {i : Nat} {f : D → M D} {R : Fl → Strm → Prop} (hf : ∀ o s (R : D → Strm → Prop), W (f o) s R → ∃ ds, o = .lst true ds) (h : W (getE env i >>= fun o => f o >>= fun r => pure (Fl.nx (setE env i r))) s R) : ∃ ds, env[i]? = some (some (.lst true ds)) ∧ W (f (.lst true ds)) s fun r s' => R (.nx (setE env i r)) s' := by
  obtain ⟨o, e, q⟩ := getE_sem (W_bind.mp h)
  have q := W_bind.mp q
  obtain ⟨ds, rfl⟩ := hf o s _ q
  exact ⟨ds, e, q⟩
theorem ss_ext {i : Nat} {x : Str} {m : ME} {e : Expr} {px apos cpos : Pos} (n : Nm X i x) (he : SE C Γ k X .p m e) (hs : starEach (e :: []) X.env = (false, eval e X.env) :: starEach [] X.env) (ln : Ln X [e] apos cpos) :
    SS C Γ k X (.ext i m) (.Expr (.Call (.Attribute (.Name x px) "extend" apos) [e] [] cpos) pos) := by
  obtain ⟨te, a1, a2⟩ := he.b
  refine ⟨_, ps_expr (pe_bm PySem.F.plainAttrs_list PySem.F.slot_list_extend PySem.F.type_list_extend mt_extend n.pe (pa_cons a1 pa_nil hs) rfl ln.hfew ln.hline hs rfl) rfl, fun p0 H0 G0 H G s env σ Q x h => ?_⟩
  rw [run] at h
  have h := W_bind.mp h
  have isL : ∀ d o s (R : D → Strm → Prop), W (extD o d) s R → ∃ ds, o = .lst true ds := by
    intro d o s R q
    unfold extD at q
    split at q
    · exact ⟨_, rfl⟩
    · exact q.elim
  obtain ⟨d0, s0, q0⟩ := W_ex h
  obtain ⟨ds, e1, _⟩ := lst_look (isL d0) q0
  obtain ⟨fe, re, nn, f0⟩ := x.env
  obtain ⟨p1, vs, f, es, hp, rs, nf, npf, pin, sub, nG, wr⟩ := own_write x re nn f0 e1
  refine ⟨_, es, .inl ⟨rfl, _, SqL.of hp⟩, a2 p0 H0 G0 H G s env σ _ x (W_mono h fun d s1 q H1 G1 v fp g1 x1 r1 ef => ?_)⟩
  obtain ⟨ds', e1', q⟩ := lst_look (isL d) q
  rw [e1] at e1'
  cases e1'
  have ko : ∃ o' es', d = .lst o' es' := by
    unfold extD at q
    split at q
    · exact ⟨_, _, rfl⟩
    · exact q.elim
  obtain ⟨o', es', rfl⟩ := ko
  · obtain ⟨c, q⟩ := W_guard.mp (W_bind.mp (show W (guardM (ds.length + es'.length ≤ LIM) >>= fun _ => pure (D.lst true (ds ++ es'))) s1 _ from q))
    have q : PostS C X p0 H0 G0 H G Q (.nx (setE env i (.lst true (ds ++ es')))) s1 := q
    obtain ⟨p3, vs3, f3, rfl, hp3, _, rs3, nf3, fr3⟩ := ef.2 _ _ rfl
    have re1 := re.grow x.pl g1
    obtain ⟨p2, vs2, f2, es2, hp2, rs2, nf2, npf2, pin2, sub2, nG2, wr2⟩ := own_write x1 re1 nn f0 e1
    rw [es] at es2
    cases es2
    have dis := not_in_env re fr3
    refine ⟨p1, p3, vs2, vs3, rfl, rfl, hp2, hp3, by rw [← rs2.length, ← rs3.length]; exact lim_size c, ?_⟩
    obtain ⟨fq, _, _, _, x3, ev3⟩ := wr2 (ds ++ es') (vs2 ++ vs3) (f2 ++ f3) (Reps.append rs2 rs3) (nodup_app.mpr ⟨nf2, nf3, fun a h1 h2 => dis a h2 (sub2 a h1)⟩) fun a ha => by
      rcases List.mem_append.mp ha with z | z
      · exact ⟨.inl z, f0 a (sub2 a z)⟩
      · exact ⟨.inr (dis a z), grow_none x.grow x.pl (fr3 a z)⟩
    exact q _ _ σ (g1.evo.trans ev3) x3
theorem split_apart {K : PySem.W.Frag} : ∀ {ds : List D} {vs : List V} {f : List Addr} (n : Nat), Reps K C p0 H G ds vs f → f.Nodup → ∃ ft fd, Reps K C p0 H G (ds.take n) (vs.take n) ft ∧ Reps K C p0 H G (ds.drop n) (vs.drop n) fd ∧ f = ft ++ fd
  | [], _, _, n, r, _ => by
    obtain ⟨rfl, rfl⟩ := Reps.nil_iff.mp r
    exact ⟨[], [], by simpa using r, by simpa using r, rfl⟩
  | d :: ds, _, f, 0, r, _ => ⟨[], f, Reps.nil, r, rfl⟩
  | d :: ds, _, _, n + 1, r, nd => by
    obtain ⟨v, r', f, g, rfl, rfl, a, b⟩ := Reps.cons_iff.mp r
    obtain ⟨ft, fd, h1, h2, rfl⟩ := split_apart n b (nodup_app.mp nd).2.1
    exact ⟨f ++ ft, fd, by simpa using Reps.cons a h1, by simpa using h2, by rw [List.append_assoc]⟩
theorem ss_ins {i : Nat} {x : Str} {mk me : ME} {ek e : Expr} {px apos cpos : Pos} (n : Nm X i x) (hk : SE C Γ k X .v mk ek) (he : SE C Γ k X .v me e) (hs : starEach (ek :: [e]) X.env = (false, eval ek X.env) :: starEach [e] X.env) (hs2 : starEach (e :: []) X.env = (false, eval e X.env) :: starEach [] X.env)
    (hpl : (backTo cpos (starEach [e] X.env)).any (·.1) = false) (ln : Ln X [ek, e] apos cpos) :
    SS C Γ k X (.ins i mk me) (.Expr (.Call (.Attribute (.Name x px) "insert" apos) [ek, e] [] cpos) pos) := by
  obtain ⟨tk, b1, b2⟩ := hk
  obtain ⟨te, a1, a2⟩ := he
  refine ⟨_, ps_expr (pe_bm PySem.F.plainAttrs_list PySem.F.slot_list_insert PySem.F.type_list_insert mt_insert n.pe (pa_cons b1 (pa_cons a1 pa_nil hs2) hs) rfl ln.hfew ln.hline hs hpl) rfl, fun p0 H0 G0 H G s env σ Q x h => ?_⟩
  rw [run] at h
  have h := W_bind.mp h
  have isL : ∀ kd d o s (R : D → Strm → Prop), W (insD o kd d) s R → ∃ ds, o = .lst true ds := by
    intro kd d o s R q
    unfold insD at q
    split at q
    · exact ⟨_, rfl⟩
    · exact q.elim
  obtain ⟨k0, s0, q0⟩ := W_ex h
  obtain ⟨d0, s0', q0⟩ := W_ex (W_bind.mp q0)
  obtain ⟨ds, e1, _⟩ := lst_look (isL k0 d0) q0
  obtain ⟨fe, re, nn, f0⟩ := x.env
  obtain ⟨p1, vs, f, es, hp, rs, nf, npf, pin, sub, nG, wr⟩ := own_write x re nn f0 e1
  refine ⟨_, es, .inl ⟨rfl, _, SqL.of hp⟩, b2 p0 H0 G0 H G s env σ _ x (W_mono h fun kd s1 q H1 G1 kv fk g1 x1 r1 z1 => a2 p0 H0 G0 H1 G1 s1 env σ _ x1 (W_mono (W_bind.mp q) fun d s2 q H2 G2 v fv g2 x2 r2 z2 => ?_))⟩
  obtain ⟨ds', e1', q⟩ := lst_look (isL kd d) q
  rw [e1] at e1'
  cases e1'
  have ko : ∃ i0, kd = .int i0 := by
    unfold insD at q
    split at q
    · exact ⟨_, rfl⟩
    · exact q.elim
  obtain ⟨i0, rfl⟩ := ko
  · obtain ⟨⟨c1, c2, c3⟩, q⟩ := W_guard.mp (W_bind.mp (show W (guardM (ds.length < LIM ∧ 0 ≤ i0 ∧ i0 ≤ ds.length) >>= fun _ => pure (D.lst true (insAt ds i0 d))) s2 _ from q))
    have q : PostS C X p0 H0 G0 H G Q (.nx (setE env i (.lst true (insAt ds i0 d)))) s2 := q
    obtain ⟨nv, fr⟩ := z2 rfl
    have fr : ∀ a ∈ fv, H a = none := fun a ha => grow_none g1 x1.pl (fr a ha)
    have re2 := re.grow x.pl (g1.trans g2)
    obtain ⟨p2, vs2, f2, es2, hp2, rs2, nf2, npf2, pin2, sub2, nG2, wr2⟩ := own_write x2 re2 nn f0 e1
    rw [es] at es2
    cases es2
    have dis := not_in_env re fr
    rw [int_of r1]
    have c4 : (ds.length : Int) < 1000000 := by have : ds.length < 1000000 := c1; omega
    refine ⟨p1, vs2, i0, v, rfl, rfl, hp2, by rw [← rs2.length]; exact lim_size' c1, c2, by omega, ?_⟩
    obtain ⟨ft, fd, t1, d1, rfl⟩ := split_apart i0.toNat rs2 nf2
    obtain ⟨n3, n4, tdis⟩ := nodup_app.mp nf2
    have t2 : ∀ a ∈ ft, a ∈ ft ++ fd := fun a h => List.mem_append_left _ h
    have d2 : ∀ a ∈ fd, a ∈ ft ++ fd := fun a h => List.mem_append_right _ h
    obtain ⟨fq, _, _, _, x3, ev3⟩ := wr2 (insAt ds i0 d) (vs2.take i0.toNat ++ [v] ++ vs2.drop i0.toNat) (ft ++ (fv ++ fd)) (by
      unfold insAt
      rw [List.append_assoc]
      exact Reps.append t1 (Reps.cons r2 d1)) (nodup_app.mpr ⟨n3, nodup_app.mpr ⟨nv, n4, fun a h1 h2 => dis a h1 (sub2 a (d2 a h2))⟩, fun a h1 h2 => by
        rcases List.mem_append.mp h2 with z | z
        · exact dis a z (sub2 a (t2 a h1))
        · exact tdis a h1 z⟩) fun a ha => by
      rcases List.mem_append.mp ha with z | z
      · exact ⟨.inl (t2 a z), f0 a (sub2 a (t2 a z))⟩
      · rcases List.mem_append.mp z with z | z
        · exact ⟨.inr (dis a z), grow_none x.grow x.pl (fr a z)⟩
        · exact ⟨.inl (d2 a z), f0 a (sub2 a (d2 a z))⟩
    exact q _ _ σ ((g1.trans g2).evo.trans ev3) x3
theorem ss_pop {t i : Nat} {x y : Str} {m : ME} {e : Expr} {px py apos cpos : Pos} (n : Nm X i x) (he : SE C Γ k X .v m e) (hs : starEach (e :: []) X.env = (false, eval e X.env) :: starEach [] X.env) (ln : Ln X [e] apos cpos) (hg : PG X (.Name y py) (gT X.K (.nm t))) :
    SS C Γ k X (.pop t i m) (.Assign [.Name y py] (.Call (.Attribute (.Name x px) "pop" apos) [e] [] cpos) pos) := by
  obtain ⟨te, a1, a2⟩ := he
  refine ⟨_, ps_asg (pe_bm PySem.F.plainAttrs_list PySem.F.slot_list_pop PySem.F.type_list_pop mt_popAt n.pe (pa_cons a1 pa_nil hs) rfl ln.hfew ln.hline hs rfl) hg rfl rfl rfl, fun p0 H0 G0 H G s env σ Q x h => ?_⟩
  rw [run] at h
  have h := W_bind.mp h
  have isL : ∀ kd o s (R : D × D → Strm → Prop), W (popD o kd) s R → ∃ ds i0, o = .lst true ds ∧ kd = .int i0 := by
    intro kd o s R q
    unfold popD at q
    split at q
    · exact ⟨_, _, rfl, rfl⟩
    · exact q.elim
  obtain ⟨k0, s0, q0⟩ := W_ex h
  obtain ⟨o, e1, q0⟩ := getE_sem (W_bind.mp q0)
  obtain ⟨ds, _, rfl, _⟩ := isL _ _ _ _ (W_bind.mp q0)
  obtain ⟨fe, re, nn, f0⟩ := x.env
  obtain ⟨p1, vs, f, es, hp, rs, nf, npf, pin, sub, nG, wr⟩ := own_write x re nn f0 e1
  refine ⟨_, es, .inl ⟨rfl, _, SqL.of hp⟩, a2 p0 H0 G0 H G s env σ _ x (W_mono h fun kd s1 q H1 G1 kv fk g1 x1 r1 z1 => ?_)⟩
  obtain ⟨o', e1', q⟩ := getE_sem (W_bind.mp q)
  rw [e1] at e1'
  cases e1'
  obtain ⟨_, i0, hds, rfl⟩ := isL _ _ _ _ (W_bind.mp q)
  cases hds
  have q := W_bind.mp q
  obtain ⟨c, q⟩ := W_guard.mp (W_bind.mp (show W (guardM (ds.length ≤ LIM) >>= fun _ => ofO (pix ds.length i0) >>= fun j => ofO ds[j]? >>= fun d => pure (d, D.lst true (ds.eraseIdx j))) s1 _ from q))
  obtain ⟨j, hj, q⟩ := W_ofO.mp (W_bind.mp q)
  obtain ⟨d, hd, q⟩ := W_ofO.mp (W_bind.mp q)
  have q : PostS C X p0 H0 G0 H G Q (.nx (setE (setE env i (.lst true (ds.eraseIdx j))) t d)) s1 := q
  have re1 := re.grow x.pl g1
  obtain ⟨p2, vs2, f2, es2, hp2, rs2, nf2, npf2, pin2, sub2, nG2, wr2⟩ := own_write x1 re1 nn f0 e1
  rw [es] at es2
  cases es2
  obtain ⟨w, fw, hw, rw', subw, nw, _, _, fq, q1, q2, q3⟩ := rs2.repl nf2 hd
  obtain ⟨fr, u1, u2, u3, x3, ev3⟩ := wr2 (ds.eraseIdx j) (vs2.eraseIdx j) fq q1 q2 fun a ha => ⟨.inl (q3 a ha).1, f0 a (sub2 a (q3 a ha).1)⟩
  rw [int_of r1]
  have sq := ixN_seq (show ixN ds.length i0 = some j from hj)
  have cl : ds.length ≤ 1000000 := c
  refine ⟨p1, vs2, i0, j, w, rfl, rfl, hp2, by omega, by omega, by rw [← rs2.length]; exact sq.1, hw, ?_⟩
  have npw : p1 ∉ fw := fun z => npf2 (subw _ z)
  refine tg_sem (H0 := H0) (.nm t) (R := fun env' s' => env' = setE (setE env i (.lst true (ds.eraseIdx j))) t d ∧ s' = s1) (s := s1) (Q := Q.nx) (d := d) ⟨fr, fw ++ [], u1, Reps.cons (Rep.wrt hp2 nG2 rw' npw) Reps.nil, ?_, fun a ha => ?_⟩ ⟨rfl, rfl⟩ fun env' σ' q' e => ?_
  · rw [List.append_nil]
    refine nodup_app.mpr ⟨u2, nw, fun a h1 h2 => ?_⟩
    rcases u3 a h1 with rfl | z | z
    · exact npw h2
    · exact (q3 a z).2 h2
    · exact z.2 (subw a h2)
  · rw [List.append_nil] at ha
    rcases List.mem_append.mp ha with z | z
    · rcases u3 a z with rfl | z | z
      · exact f0 _ pin
      · exact f0 a (sub2 a (q3 a z).1)
      · exact f0 a z.1
    · exact f0 a (sub2 a (subw a z))
  · rw [q'.1] at e
    exact q _ _ σ' (g1.evo.trans ev3) (x3.envs e)
theorem ss_appm {i l : Nat} {x y : Str} {px py apos cpos : Pos} (n : Nm X i x) (m : Nm X l y) (hs : starEach ((Expr.Name y py) :: []) X.env = (false, eval (.Name y py) X.env) :: starEach [] X.env)
    (hfew : ((backTo cpos (starEach ((Expr.Name y py) :: []) X.env)).all (fun x => !x.1) && (backToKw cpos (keywordEach [] X.env)).all (fun x => x.1.isSome) && decide (((Expr.Name y py) :: ([] : List Expr)).length + ([] : List Keyword).length + (if ([] : List Keyword).isEmpty then 0 else 1) < 30)) = true) (hline : (apos.endLine == cpos.line) = true) :
    SS C Γ k X (.appm i l) (.Expr (.Call (.Attribute (.Name x px) "append" apos) [.Name y py] [] cpos) pos) := by
  refine ⟨_, ps_expr (pe_bm PySem.F.plainAttrs_list PySem.F.slot_list_append PySem.F.type_list_append mt_append n.pe (pa_cons m.pe pa_nil hs) rfl hfew hline hs rfl) rfl, fun p0 H0 G0 H G s env σ Q x h => ?_⟩
  rw [run] at h
  obtain ⟨d, e, q⟩ := getE_sem (W_bind.mp h)
  obtain ⟨o, e1, q⟩ := getE_sem (W_bind.mp q)
  have q := W_bind.mp q
  unfold appD at q
  split at q
  · rename_i ds _
    obtain ⟨fe, re, nn, f0⟩ := x.env
    obtain ⟨v, f, el, r, sub, nf, _, _, fq, q1, q2, q3⟩ := re.repl nn e
    have f0' : ∀ a ∈ fq, H0 a = none := fun a ha => f0 a (q3 a ha).1
    have x' : StX X.K C p0 H0 G0 H G s (env.set l none) σ := ⟨x.grow, x.strm, x.gs, fq, q1, q2, f0'⟩
    obtain ⟨p1, vs, f1, es, hp, rs, nf1, npf, pin, sub1, nG, wr⟩ := own_write x' q1 q2 f0' e1
    obtain ⟨c, q⟩ := W_guard.mp (W_bind.mp q)
    have q : PostS C X p0 H0 G0 H G Q (.nx (setE (env.set l none) i (.lst true (ds ++ [d])))) s := q
    refine ⟨_, es, .inl ⟨rfl, _, SqL.of hp⟩, v, el, ?_⟩
    refine ⟨p1, vs, v, rfl, rfl, hp, by rw [← rs.length]; exact lim_size' c, ?_⟩
    have dis : ∀ a ∈ f, a ∉ fq := fun a ha hb => (q3 a hb).2 ha
    obtain ⟨fr, _, _, _, x3, ev3⟩ := wr (ds ++ [d]) (vs ++ [v]) (f1 ++ (f ++ [])) (Reps.append rs (Reps.cons r Reps.nil)) (by
      rw [List.append_nil]
      exact nodup_app.mpr ⟨nf1, nf, fun a h1 h2 => dis a h2 (sub1 a h1)⟩) fun a ha => by
        rw [List.append_nil] at ha
        rcases List.mem_append.mp ha with z | z
        · exact ⟨.inl z, f0' a (sub1 a z)⟩
        · exact ⟨.inr (dis a z), f0 a (sub a z)⟩
    exact q _ _ σ ev3 x3
  · exact q.elim
theorem ss_mv {i l : Nat} {x y : Str} {px py : Pos} (n : Nm X l x) (hg : PG X (.Name y py) (gT X.K (.nm i))) : SS C Γ k X (.mv i l) (.Assign [.Name y py] (.Name x px) pos) := by
  refine ⟨_, ps_asg n.pe hg rfl rfl rfl, fun p0 H0 G0 H G s env σ Q x h => ?_⟩
  rw [run] at h
  obtain ⟨d, e, q⟩ := getE_sem (W_bind.mp h)
  have q : PostS C X p0 H0 G0 H G Q (.nx (setE (env.set l none) i d)) s := q
  obtain ⟨fe, re, nn, f0⟩ := x.env
  obtain ⟨v, f, e1, r, sub, nf, _, _, fq, q1, q2, q3⟩ := re.repl nn e
  refine ⟨v, e1, ?_⟩
  refine tg_sem (H0 := H0) (.nm i) (R := fun env' s' => env' = setE (env.set l none) i d ∧ s' = s) (s := s) (Q := Q.nx) (d := d) ⟨fq, f ++ [], q1, Reps.cons r Reps.nil, ?_, fun a ha => ?_⟩ ⟨rfl, rfl⟩ fun env' σ' q' e => ?_
  · rw [List.append_nil]
    exact nodup_app.mpr ⟨q2, nf, fun a h1 h2 => (q3 a h1).2 h2⟩
  · rw [List.append_nil] at ha
    rcases List.mem_append.mp ha with z | z
    · exact f0 a (q3 a z).1
    · exact f0 a (sub a z)
  · rw [q'.1] at e
    exact q _ _ σ' Grow.rfl'.evo (x.envs e)
/-! ### the rows of a list of one's own are spoilt -/
theorem RepE.put {K : PySem.W.Frag} : ∀ {env : En} {σ : L2.St} {fp : List Addr} {t : Nat} {x : Option V}, RepE K C p0 H G env σ fp → env[t]? = some none → RepE K C p0 H G env (σ.set t x) fp
  | [], _, _, _, _, _, e => by simp at e
  | none :: env, _, _, 0, y, r, _ => by
    obtain ⟨x, r', rfl, a⟩ := RepE.none_iff.mp r
    exact RepE.none_iff.mpr ⟨y, r', rfl, a⟩
  | some d :: env, _, _, 0, _, _, e => by simp at e
  | none :: env, _, _, t + 1, y, r, e => by
    obtain ⟨x, r', rfl, a⟩ := RepE.none_iff.mp r
    exact RepE.none_iff.mpr ⟨x, _, rfl, a.put (by simpa using e)⟩
  | some d :: env, _, _, t + 1, y, r, e => by
    obtain ⟨v, r', f, g, rfl, rfl, a, b⟩ := RepE.some_iff.mp r
    exact RepE.some_iff.mpr ⟨v, _, f, g, rfl, rfl, a, b.put (by simpa using e)⟩
theorem row_spoil {i : Nat} {ds xs : List D} {d0 : D} (x : StX X.K C p0 H0 G0 H G s env σ) (e1 : env[i]? = some (some (.lst true ds))) (hjr : ds[j]? = some (.lst true (d0 :: xs))) :
    ∃ p1 vs q1 w0 ws, σ[i]? = some (some (.ref p1)) ∧ H p1 = some (.lst vs) ∧ vs.length = ds.length ∧ vs[j]? = some (.ref q1) ∧ H q1 = some (.lst (w0 :: ws)) ∧ ws.length = xs.length ∧
      StX X.K C p0 H0 G0 (upd H q1 (.lst (.non :: (ws ++ [.int 0])))) G s (setE env i (.lst true (ds.set j (.lst true (.non :: (xs ++ [.int 0])))))) σ ∧ Evo p0 H G (upd H q1 (.lst (.non :: (ws ++ [.int 0])))) G := by
  obtain ⟨fe, re, nn, fe0⟩ := x.env
  obtain ⟨v3, f3, e3, rr3, sub3, n3, h3, _⟩ := re.repl nn e1
  obtain ⟨p1, vs, f', rfl, hp3, np3, rs3, nG3, rfl, npf3, nf3⟩ := own_of rr3 n3
  obtain ⟨iv3, fi3, hiv3, ri3, subi3, ni3, k3, _, _⟩ := rs3.repl nf3 hjr
  obtain ⟨q1, ws', g', rfl, hq3, npq3, rq3, nGq3, rfl, nqg3, ng3⟩ := own_of ri3 ni3
  obtain ⟨w0, ws, f0, g, rfl, rfl, r0, rq⟩ := Reps.cons_iff.mp rq3
  have gsub : ∀ a ∈ g, a ∈ f' := fun a ha => subi3 a (List.mem_cons_of_mem _ (List.mem_append_right _ ha))
  have qin : q1 ∈ f' := subi3 q1 List.mem_cons_self
  have qfe : q1 ∈ fe := sub3 q1 (List.mem_cons_of_mem _ qin)
  have nqg : q1 ∉ g := fun z => nqg3 (List.mem_append_right _ z)
  have ng : g.Nodup := (nodup_app.mp ng3).2.1
  have rn : Reps X.K C p0 H G (.non :: (xs ++ [.int 0])) (.non :: (ws ++ [.int 0])) g := by
    have := Reps.cons (non_rep (K := X.K) (C := C) (p0 := p0) (H := H) (G := G)) (Reps.append rq (Reps.cons (int_rep (i := 0)) Reps.nil))
    simpa using this
  have rin : Rep X.K C p0 (upd H q1 (.lst (.non :: (ws ++ [.int 0])))) G (.lst true (.non :: (xs ++ [.int 0]))) (.ref q1) (q1 :: g) := by
    rw [Rep]
    exact ⟨q1, _, g, rfl, upd_same, npq3, Reps.wrt hq3 nGq3 rn nqg, .inl ⟨rfl, nGq3, rfl⟩⟩
  obtain ⟨fq, w1, w2, w3⟩ := k3 q1 (w0 :: ws) (.non :: (ws ++ [.int 0])) _ (q1 :: g) List.mem_cons_self hq3 nGq3 rin (List.nodup_cons.mpr ⟨nqg, ng⟩) fun a ha => by
    rcases List.mem_cons.mp ha with rfl | ha
    · exact .inl List.mem_cons_self
    · exact .inl (List.mem_cons_of_mem _ (List.mem_append_right _ ha))
  have w3' : ∀ a ∈ fq, a ∈ f' := fun a ha => by
    rcases w3 a ha with y | y
    · rcases List.mem_cons.mp y with rfl | y
      · exact qin
      · exact gsub a y
    · exact y.1
  have npq1 : p1 ≠ q1 := fun z => npf3 (z ▸ qin)
  have npfq : p1 ∉ fq := fun z => npf3 (w3' p1 z)
  have rout : Rep X.K C p0 (upd H q1 (.lst (.non :: (ws ++ [.int 0])))) G (.lst true (ds.set j (.lst true (.non :: (xs ++ [.int 0]))))) (.ref p1) (p1 :: fq) := by
    rw [Rep]
    exact ⟨p1, _, fq, rfl, by rw [upd_ne npq1]; exact hp3, np3, w1, .inl ⟨rfl, nG3, rfl⟩⟩
  obtain ⟨fr, t1, t2, t3⟩ := h3 q1 (w0 :: ws) (.non :: (ws ++ [.int 0])) _ (p1 :: fq) (List.mem_cons_of_mem _ qin) hq3 nGq3 rout (List.nodup_cons.mpr ⟨npfq, w2⟩) fun a ha => by
    rcases List.mem_cons.mp ha with rfl | ha
    · exact .inl List.mem_cons_self
    · exact .inl (List.mem_cons_of_mem _ (w3' a ha))
  refine ⟨p1, vs, q1, w0, ws, e3, hp3, rs3.length.symm, hiv3, hq3, rq.length.symm, ⟨x.grow.wrt (fe0 q1 qfe), x.strm.wrt hq3 npq3 nGq3, gs_wrt x.gs hq3, fr, t1, t2, fun a ha => ?_⟩, ⟨fun y o ny hy z => ?_, fun _ h => h⟩⟩
  · rcases t3 a ha with y | y
    · rcases List.mem_cons.mp y with rfl | y
      · exact fe0 _ (sub3 _ List.mem_cons_self)
      · exact fe0 a (sub3 a (List.mem_cons_of_mem _ (w3' a y)))
    · exact fe0 a y.1
  · have : y ≠ q1 := fun e => by
      subst e
      rcases z with z | z
      · exact nGq3 z
      · rw [hq3] at hy
        exact z _ (Option.some.inj hy).symm
    rw [upd_ne this]
    exact hy
theorem spoilL_len : ∀ {ds rs : List D}, spoilL ds = some rs → rs.length = ds.length
  | [], rs, h => by cases h; rfl
  | d :: ds, rs, h => by
    rw [spoilL] at h
    split at h
    · rename_i a b _ hb
      cases h
      rw [List.length_cons, List.length_cons, spoilL_len hb]
    · cases h
theorem spoilL_get : ∀ {ds rs : List D} {j : Nat} {d : D}, spoilL ds = some rs → ds[j]? = some d → ∃ r, rs[j]? = some r ∧ spoil1 d = some r
  | [], _, _, _, _, e => by simp at e
  | d :: ds, rs, j, x, h, e => by
    rw [spoilL] at h
    split at h
    · rename_i a b ha hb
      cases h
      cases j with
      | zero =>
        have e' : d = x := by simpa using e
        subst e'
        exact ⟨a, rfl, ha⟩
      | succ j => exact spoilL_get hb (j := j) (by simpa using e)
    · cases h
theorem upd_twice {q : Addr} {xs ys : List V} : upd (upd H q (.lst xs)) q (.lst ys) = upd H q (.lst ys) := by
  funext y
  unfold upd
  split <;> rfl
theorem ss_spoil (g : Gd C Γ Gs k X) {t i : Nat} {x y z : Str} {px py pz ps1 ps2 apos cpos pe : Pos} {k0 k1 k2 : Nat} {c0 c1 c2 : Pos} {tg : Expr} (ni : Nm X i y) (nt : Nm X t x) (nz : Nm X t z) (hg : PG X tg (gT X.K (.nm t))) (hline : (apos.endLine == cpos.line) = true) :
    SS C Γ k X (.spoil t i) (.For tg (.Name y py) [.Assign [.Subscript (.Name x px) (.Constant (.int 0) k0 c0) ps1] (.Constant .none k1 c1) ps2, .Expr (.Call (.Attribute (.Name z pz) "append" apos) [.Constant (.int 0) k2 c2] [] cpos) pe] [] pos) := by
  refine ⟨_, ps_for g.po g.calm (pi_seq ni.pe) hg (pss_cons (ps_asg pe_non (pg_sub nt.pe pe_int set_list) rfl rfl rfl) (pss_cons (ps_expr (pe_bm PySem.F.plainAttrs_list PySem.F.slot_list_append PySem.F.type_list_append mt_append nz.pe (pa_cons pe_int pa_nil rfl) rfl rfl hline rfl rfl) rfl) pss_nil)) (fun _ => rfl), fun p0 H0 G0 H G s env σ Q x h => ?_⟩
  rw [run] at h
  obtain ⟨⟨hti, htl⟩, h⟩ := W_guard.mp (W_bind.mp h)
  obtain ⟨o, e1, q⟩ := getE_sem (W_bind.mp h)
  have q := W_bind.mp q
  unfold spoilD at q
  split at q
  · rename_i ds _
    obtain ⟨rs, er, q⟩ := W_ofO.mp (W_bind.mp q)
    have q : PostS C X p0 H0 G0 H G Q (.nx (setE (env.set t none) i (.lst true rs))) s := q
    have xk : StX X.K C p0 H0 G0 H G s (env.set t none) σ := x.kill [t]
    have e1' : (env.set t none)[i]? = some (some (.lst true ds)) := by rw [List.getElem?_set_ne hti]; exact e1
    have hil : i < (env.set t none).length := (List.getElem?_eq_some_iff.mp e1').1
    have hrl := spoilL_len er
    obtain ⟨fe, re, nn, fe0⟩ := xk.env
    obtain ⟨p1, vs, f, es, hp, rs1, nf, npf, pin, sub, nG, _⟩ := own_write xk re nn fe0 e1'
    refine ⟨_, es, p1, rfl, .inl ⟨⟨_, SqL.of hp⟩, ?_⟩⟩
    let Inv : Nat → L2.St → Hp → Prop := fun j σ' Hi => Evo p0 H G Hi G ∧ σ'[i]? = some (some (.ref p1)) ∧ StX X.K C p0 H0 G0 Hi G s (setE (env.set t none) i (.lst true (rs.take j ++ ds.drop j))) σ'
    refine ⟨fun j mm σ' Hi => mm = ds.length - j ∧ j ≤ ds.length ∧ Inv j σ' Hi, ⟨ds.length, by simp, Nat.zero_le _, Grow.rfl'.evo, es, ?_⟩, ?_⟩
    · have : setE (env.set t none) i (.lst true (rs.take 0 ++ ds.drop 0)) = env.set t none := by
        unfold setE
        apply List.ext_getElem?
        intro l
        by_cases hl : i = l
        · subst hl
          rw [List.getElem?_set_self hil, e1']
          rfl
        · rw [List.getElem?_set_ne hl]
      rw [this]
      exact xk
    · rintro j mm σ' Hi ⟨rfl, hle, ei, esi, xi⟩
      have ej : (setE (env.set t none) i (.lst true (rs.take j ++ ds.drop j)))[i]? = some (some (.lst true (rs.take j ++ ds.drop j))) := by
        unfold setE
        rw [List.getElem?_set_self hil]
      by_cases hlt : j < ds.length
      · obtain ⟨r, hr, hs⟩ := spoilL_get er (List.getElem?_eq_getElem hlt)
        have hdj : ∃ d0 xs, ds[j] = .lst true (d0 :: xs) ∧ xs.length + 1 < LIM ∧ r = .lst true (.non :: (xs ++ [.int 0])) := by
          generalize ds[j] = d at hs
          unfold spoil1 at hs
          split at hs
          · split at hs
            · rename_i hl
              cases hs
              exact ⟨_, _, rfl, hl, rfl⟩
            · cases hs
          · cases hs
        obtain ⟨d0, xs, hd, hxl, rfl⟩ := hdj
        have hlen : (rs.take j).length = j := by rw [List.length_take]; omega
        have hrow : (rs.take j ++ ds.drop j)[j]? = some (.lst true (d0 :: xs)) := by
          rw [List.getElem?_append_right (by omega), hlen, Nat.sub_self, List.getElem?_drop, Nat.add_zero, List.getElem?_eq_getElem hlt, hd]
        obtain ⟨p2, vs2, q1, w0, ws, es2, hp2, hl2, hv2, hq2, hw2, x3, ev3⟩ := row_spoil xi ej hrow
        rw [esi] at es2
        cases es2
        refine .inr ⟨⟨vs2, _, SqL.of hp2, hv2⟩, Inv (j + 1), fun σ2 H2 n => ⟨ds.length - (j + 1), by omega, rfl, hlt, n⟩, fun v H3 hy => ?_⟩
        obtain ⟨rfl, hy⟩ := hy
        have := hy vs2 (SqL.of hp2)
        rw [hv2] at this
        cases this
        have hsl : t < σ'.length := by
          obtain ⟨_, re', _⟩ := xi.env
          rw [← re'.length]
          unfold setE
          rw [List.length_set, List.length_set]
          exact htl
        have est : (σ'.set t (some (.ref q1)))[t]? = some (some (.ref q1)) := List.getElem?_set_self hsl
        refine ⟨_, est, ⟨q1, w0 :: ws, 0, 0, rfl, rfl, hq2, (by
          rw [List.length_cons]
          unfold ixN
          rw [if_pos (Int.le_refl 0), if_pos (by omega)]
          rfl), ?_⟩⟩
        refine ⟨_, est, .inl ⟨rfl, _, SqL.of upd_same⟩, ⟨q1, _, .int 0, rfl, rfl, upd_same, ?_, ?_⟩⟩
        · rw [List.length_set, List.length_cons, hw2]
          exact lim_size' hxl
        · rw [upd_twice]
          have eset : (rs.take j ++ ds.drop j).set j (.lst true (.non :: (xs ++ [.int 0]))) = rs.take (j + 1) ++ ds.drop (j + 1) := by
            rw [List.set_append_right _ _ (by omega), hlen, Nat.sub_self, List.drop_eq_getElem_cons hlt, List.set_cons_zero, List.take_add_one, hr]
            simp
          rw [eset] at x3
          refine ⟨ei.trans ev3, by rw [List.getElem?_set_ne hti]; exact esi, ?_⟩
          have ee : setE (setE (env.set t none) i (.lst true (rs.take j ++ ds.drop j))) i (.lst true (rs.take (j + 1) ++ ds.drop (j + 1))) = setE (env.set t none) i (.lst true (rs.take (j + 1) ++ ds.drop (j + 1))) := by
            unfold setE
            rw [List.set_set]
          rw [ee] at x3
          obtain ⟨fr, r1, r2, r3⟩ := x3.env
          exact x3.envs ⟨fr, r1.put (by
            unfold setE
            rw [List.getElem?_set_ne (Ne.symm hti), List.getElem?_set_self htl]), r2, r3⟩
      · have : j = ds.length := by omega
        subst this
        rw [List.drop_length, List.append_nil, List.take_of_length_le (by omega)] at xi ej
        obtain ⟨fe2, re2, nn2, fe02⟩ := xi.env
        obtain ⟨p2, vs2, _, es2, hp2, rs2, _⟩ := own_write xi re2 nn2 fe02 ej
        rw [esi] at es2
        cases es2
        exact .inl ⟨⟨vs2, SqL.of hp2, by rw [← rs2.length]; omega⟩, q Hi G σ' ei xi⟩
  · exact q.elim
theorem row_app0 {i : Nat} {ds xs : List D} (x : StX X.K C p0 H0 G0 H G s env σ) (e1 : env[i]? = some (some (.lst true ds))) (hjr : ds[j]? = some (.lst true xs)) :
    ∃ p1 vs q1 ws, σ[i]? = some (some (.ref p1)) ∧ H p1 = some (.lst vs) ∧ vs.length = ds.length ∧ vs[j]? = some (.ref q1) ∧ H q1 = some (.lst ws) ∧ ws.length = xs.length ∧
      StX X.K C p0 H0 G0 (upd H q1 (.lst (ws ++ [.int 0]))) G s (setE env i (.lst true (ds.set j (.lst true (xs ++ [.int 0]))))) σ ∧ Evo p0 H G (upd H q1 (.lst (ws ++ [.int 0]))) G := by
  obtain ⟨fe, re, nn, fe0⟩ := x.env
  obtain ⟨v3, f3, e3, rr3, sub3, n3, h3, _⟩ := re.repl nn e1
  obtain ⟨p1, vs, f', rfl, hp3, np3, rs3, nG3, rfl, npf3, nf3⟩ := own_of rr3 n3
  obtain ⟨iv3, fi3, hiv3, ri3, subi3, ni3, k3, _, _⟩ := rs3.repl nf3 hjr
  obtain ⟨q1, ws, g, rfl, hq3, npq3, rq, nGq3, rfl, nqg, ng⟩ := own_of ri3 ni3
  have gsub : ∀ a ∈ g, a ∈ f' := fun a ha => subi3 a (List.mem_cons_of_mem _ ha)
  have qin : q1 ∈ f' := subi3 q1 List.mem_cons_self
  have qfe : q1 ∈ fe := sub3 q1 (List.mem_cons_of_mem _ qin)
  have rn : Reps X.K C p0 H G (xs ++ [.int 0]) (ws ++ [.int 0]) g := by
    have := Reps.append rq (Reps.cons (int_rep (K := X.K) (C := C) (p0 := p0) (H := H) (G := G) (i := 0)) Reps.nil)
    simpa using this
  have rin : Rep X.K C p0 (upd H q1 (.lst (ws ++ [.int 0]))) G (.lst true (xs ++ [.int 0])) (.ref q1) (q1 :: g) := by
    rw [Rep]
    exact ⟨q1, _, g, rfl, upd_same, npq3, Reps.wrt hq3 nGq3 rn nqg, .inl ⟨rfl, nGq3, rfl⟩⟩
  obtain ⟨fq, w1, w2, w3⟩ := k3 q1 ws (ws ++ [.int 0]) _ (q1 :: g) List.mem_cons_self hq3 nGq3 rin (List.nodup_cons.mpr ⟨nqg, ng⟩) fun a ha => by
    rcases List.mem_cons.mp ha with rfl | ha
    · exact .inl List.mem_cons_self
    · exact .inl (List.mem_cons_of_mem _ ha)
  have w3' : ∀ a ∈ fq, a ∈ f' := fun a ha => by
    rcases w3 a ha with y | y
    · rcases List.mem_cons.mp y with rfl | y
      · exact qin
      · exact gsub a y
    · exact y.1
  have npq1 : p1 ≠ q1 := fun z => npf3 (z ▸ qin)
  have npfq : p1 ∉ fq := fun z => npf3 (w3' p1 z)
  have rout : Rep X.K C p0 (upd H q1 (.lst (ws ++ [.int 0]))) G (.lst true (ds.set j (.lst true (xs ++ [.int 0])))) (.ref p1) (p1 :: fq) := by
    rw [Rep]
    exact ⟨p1, _, fq, rfl, by rw [upd_ne npq1]; exact hp3, np3, w1, .inl ⟨rfl, nG3, rfl⟩⟩
  obtain ⟨fr, t1, t2, t3⟩ := h3 q1 ws (ws ++ [.int 0]) _ (p1 :: fq) (List.mem_cons_of_mem _ qin) hq3 nGq3 rout (List.nodup_cons.mpr ⟨npfq, w2⟩) fun a ha => by
    rcases List.mem_cons.mp ha with rfl | ha
    · exact .inl List.mem_cons_self
    · exact .inl (List.mem_cons_of_mem _ (w3' a ha))
  refine ⟨p1, vs, q1, ws, e3, hp3, rs3.length.symm, hiv3, hq3, rq.length.symm, ⟨x.grow.wrt (fe0 q1 qfe), x.strm.wrt hq3 npq3 nGq3, gs_wrt x.gs hq3, fr, t1, t2, fun a ha => ?_⟩, ⟨fun y o ny hy z => ?_, fun _ h => h⟩⟩
  · rcases t3 a ha with y | y
    · rcases List.mem_cons.mp y with rfl | y
      · exact fe0 _ (sub3 _ List.mem_cons_self)
      · exact fe0 a (sub3 a (List.mem_cons_of_mem _ (w3' a y)))
    · exact fe0 a y.1
  · have : y ≠ q1 := fun e => by
      subst e
      rcases z with z | z
      · exact nGq3 z
      · rw [hq3] at hy
        exact z _ (Option.some.inj hy).symm
    rw [upd_ne this]
    exact hy
theorem row_app2 {i : Nat} {ds xs : List D} {d : D} {v : V} (hd : Rep X.K C p0 H G d v []) (x : StX X.K C p0 H0 G0 H G s env σ) (e1 : env[i]? = some (some (.lst true ds))) (hjr : ds[j]? = some (.lst true xs)) :
    ∃ p1 vs q1 ws, σ[i]? = some (some (.ref p1)) ∧ H p1 = some (.lst vs) ∧ vs.length = ds.length ∧ vs[j]? = some (.ref q1) ∧ H q1 = some (.lst ws) ∧ ws.length = xs.length ∧
      StX X.K C p0 H0 G0 (upd H q1 (.lst (ws ++ [v]))) G s (setE env i (.lst true (ds.set j (.lst true (xs ++ [d]))))) σ ∧ Evo p0 H G (upd H q1 (.lst (ws ++ [v]))) G := by
  obtain ⟨fe, re, nn, fe0⟩ := x.env
  obtain ⟨v3, f3, e3, rr3, sub3, n3, h3, _⟩ := re.repl nn e1
  obtain ⟨p1, vs, f', rfl, hp3, np3, rs3, nG3, rfl, npf3, nf3⟩ := own_of rr3 n3
  obtain ⟨iv3, fi3, hiv3, ri3, subi3, ni3, k3, _, _⟩ := rs3.repl nf3 hjr
  obtain ⟨q1, ws, g, rfl, hq3, npq3, rq, nGq3, rfl, nqg, ng⟩ := own_of ri3 ni3
  have gsub : ∀ a ∈ g, a ∈ f' := fun a ha => subi3 a (List.mem_cons_of_mem _ ha)
  have qin : q1 ∈ f' := subi3 q1 List.mem_cons_self
  have qfe : q1 ∈ fe := sub3 q1 (List.mem_cons_of_mem _ qin)
  have rn : Reps X.K C p0 H G (xs ++ [d]) (ws ++ [v]) g := by
    have := Reps.append rq (Reps.cons hd Reps.nil)
    simpa using this
  have rin : Rep X.K C p0 (upd H q1 (.lst (ws ++ [v]))) G (.lst true (xs ++ [d])) (.ref q1) (q1 :: g) := by
    rw [Rep]
    exact ⟨q1, _, g, rfl, upd_same, npq3, Reps.wrt hq3 nGq3 rn nqg, .inl ⟨rfl, nGq3, rfl⟩⟩
  obtain ⟨fq, w1, w2, w3⟩ := k3 q1 ws (ws ++ [v]) _ (q1 :: g) List.mem_cons_self hq3 nGq3 rin (List.nodup_cons.mpr ⟨nqg, ng⟩) fun a ha => by
    rcases List.mem_cons.mp ha with rfl | ha
    · exact .inl List.mem_cons_self
    · exact .inl (List.mem_cons_of_mem _ ha)
  have w3' : ∀ a ∈ fq, a ∈ f' := fun a ha => by
    rcases w3 a ha with y | y
    · rcases List.mem_cons.mp y with rfl | y
      · exact qin
      · exact gsub a y
    · exact y.1
  have npq1 : p1 ≠ q1 := fun z => npf3 (z ▸ qin)
  have npfq : p1 ∉ fq := fun z => npf3 (w3' p1 z)
  have rout : Rep X.K C p0 (upd H q1 (.lst (ws ++ [v]))) G (.lst true (ds.set j (.lst true (xs ++ [d])))) (.ref p1) (p1 :: fq) := by
    rw [Rep]
    exact ⟨p1, _, fq, rfl, by rw [upd_ne npq1]; exact hp3, np3, w1, .inl ⟨rfl, nG3, rfl⟩⟩
  obtain ⟨fr, t1, t2, t3⟩ := h3 q1 ws (ws ++ [v]) _ (p1 :: fq) (List.mem_cons_of_mem _ qin) hq3 nGq3 rout (List.nodup_cons.mpr ⟨npfq, w2⟩) fun a ha => by
    rcases List.mem_cons.mp ha with rfl | ha
    · exact .inl List.mem_cons_self
    · exact .inl (List.mem_cons_of_mem _ (w3' a ha))
  refine ⟨p1, vs, q1, ws, e3, hp3, rs3.length.symm, hiv3, hq3, rq.length.symm, ⟨x.grow.wrt (fe0 q1 qfe), x.strm.wrt hq3 npq3 nGq3, gs_wrt x.gs hq3, fr, t1, t2, fun a ha => ?_⟩, ⟨fun y o ny hy z => ?_, fun _ h => h⟩⟩
  · rcases t3 a ha with y | y
    · rcases List.mem_cons.mp y with rfl | y
      · exact fe0 _ (sub3 _ List.mem_cons_self)
      · exact fe0 a (sub3 a (List.mem_cons_of_mem _ (w3' a y)))
    · exact fe0 a y.1
  · have : y ≠ q1 := fun e => by
      subst e
      rcases z with z | z
      · exact nGq3 z
      · rw [hq3] at hy
        exact z _ (Option.some.inj hy).symm
    rw [upd_ne this]
    exact hy
theorem ss_app0 {i : Nat} {x : Str} {px ps apos cpos pe : Pos} {k0 k2 : Nat} {c0 c2 : Pos} (n : Nm X i x) (hline : (apos.endLine == cpos.line) = true) :
    SS C Γ k X (.app0 i) (.Expr (.Call (.Attribute (.Subscript (.Name x px) (.Constant (.int 0) k0 c0) ps) "append" apos) [.Constant (.int 0) k2 c2] [] cpos) pe) := by
  refine ⟨_, ps_expr (pe_bm PySem.F.plainAttrs_list PySem.F.slot_list_append PySem.F.type_list_append mt_append (pe_ix ix_seq n.pe pe_int (fun _ _ => rfl)) (pa_cons pe_int pa_nil rfl) rfl rfl hline rfl rfl) rfl, fun p0 H0 G0 H G s env σ Q x h => ?_⟩
  rw [run] at h
  obtain ⟨o, e1, q⟩ := getE_sem (W_bind.mp h)
  have q := W_bind.mp q
  unfold app0D at q
  split at q
  · rename_i xs ds _
    obtain ⟨c, q⟩ := W_guard.mp (W_bind.mp q)
    have q : PostS C X p0 H0 G0 H G Q (.nx (setE env i (.lst true (.lst true (xs ++ [.int 0]) :: ds)))) s := q
    obtain ⟨p1, vs, q1, ws, es, hp, hl, hv, hq, hw, x3, ev3⟩ := row_app0 (j := 0) (xs := xs) x e1 rfl
    refine ⟨_, es, .inl ⟨p1, vs, 0, .ref q1, rfl, rfl, SqL.of hp, ?_, .inl ⟨rfl, _, SqL.of hq⟩, ⟨q1, ws, .int 0, rfl, rfl, hq, by rw [hw]; exact lim_size' c, q _ _ σ ev3 x3⟩⟩⟩
    unfold atI
    have : ixN vs.length 0 = some 0 := by
      rw [hl, List.length_cons]
      unfold ixN
      rw [if_pos (Int.le_refl 0), if_pos (by omega)]
      rfl
    rw [this]
    exact hv
  · exact q.elim
theorem ss_app2 {i : Nat} {x : Str} {mk me : ME} {ek e : Expr} {px ps apos cpos pe : Pos} (n : Nm X i x) (hk : SE C Γ k X .v mk ek) (he : SE C Γ k X .v me e) (hpk : PlainIx ek) (hs : starEach (e :: []) X.env = (false, eval e X.env) :: starEach [] X.env)
    (hfew : ((backTo cpos (starEach (e :: []) X.env)).all (fun x => !x.1) && (backToKw cpos (keywordEach [] X.env)).all (fun x => x.1.isSome) && decide ((e :: ([] : List Expr)).length + ([] : List Keyword).length + (if ([] : List Keyword).isEmpty then 0 else 1) < 30)) = true) (hline : (apos.endLine == cpos.line) = true) :
    SS C Γ k X (.app2 i mk me) (.Expr (.Call (.Attribute (.Subscript (.Name x px) ek ps) "append" apos) [e] [] cpos) pe) := by
  obtain ⟨te, a1, a2⟩ := he
  obtain ⟨tk, b1, b2⟩ := hk
  refine ⟨_, ps_expr (pe_bm PySem.F.plainAttrs_list PySem.F.slot_list_append PySem.F.type_list_append mt_append (pe_ix ix_seq n.pe b1 hpk) (pa_cons a1 pa_nil hs) rfl hfew hline hs rfl) rfl, fun p0 H0 G0 H G s env σ Q x h => ?_⟩
  rw [run] at h
  have h := W_bind.mp h
  obtain ⟨kd0, sk0, q0⟩ := W_ex h
  obtain ⟨dd0, sd0, q0⟩ := W_ex (W_bind.mp q0)
  obtain ⟨o, e1, _⟩ := getE_sem (W_bind.mp q0)
  obtain ⟨w, f0, es, _, _⟩ := x.look e1
  refine ⟨w, es, b2 p0 H0 G0 H G s env σ _ x (W_mono h fun kd s1 q H1 G1 kv fk g1 x1 r1 z1 => ?_)⟩
  have q := W_bind.mp q
  obtain ⟨d0, s00, q00⟩ := W_ex q
  obtain ⟨o', e1', q00⟩ := getE_sem (W_bind.mp q00)
  rw [e1] at e1'
  cases e1'
  have inner : ∃ ds i0 j xs, o = .lst true ds ∧ kd = .int i0 ∧ pix ds.length i0 = some j ∧ ds[j]? = some (.lst true xs) := by
    have q00 := W_bind.mp q00
    unfold app2D at q00
    split at q00
    · obtain ⟨_, q00⟩ := W_guard.mp (W_bind.mp q00)
      obtain ⟨r, er, q00⟩ := W_ofO.mp (W_bind.mp q00)
      split at q00
      · cases ej : pix _ _ with
        | none => rw [ej] at er; cases er
        | some j =>
          rw [ej] at er
          exact ⟨_, _, j, _, rfl, rfl, ej, er⟩
      · exact q00.elim
    · exact q00.elim
  obtain ⟨ds, i0, j, xs, rfl, rfl, hj, hjr⟩ := inner
  obtain ⟨fe, re, nn, fe0⟩ := x1.env
  obtain ⟨p1, vs, f, es', hp, rs1, nf, npf, pin, sub, nG, wr⟩ := own_write x1 re nn fe0 e1
  rw [es] at es'
  cases es'
  obtain ⟨iv, fi, hiv, ri, subi, ni, k1, _, _⟩ := rs1.repl nf hjr
  obtain ⟨q1, ws, g, rfl, hq, npq, rq, nGq, efi, nqg, ng⟩ := own_of ri ni
  rw [int_of r1]
  refine .inl ⟨p1, vs, i0, .ref q1, rfl, rfl, SqL.of hp, ?_, .inl ⟨rfl, _, SqL.of hq⟩, ?_⟩
  · unfold atI
    show (pix vs.length i0).bind _ = _
    rw [← rs1.length, hj]
    exact hiv
  refine a2 p0 H0 G0 H1 G1 s1 env σ _ x1 (W_mono q fun d s2 q H2 G2 v fv g2 x2 r2 z2 => ?_)
  obtain ⟨o', e1', q⟩ := getE_sem (W_bind.mp q)
  rw [e1] at e1'
  cases e1'
  have q := W_bind.mp q
  unfold app2D at q
  obtain ⟨hno, q⟩ := W_guard.mp (W_bind.mp q)
  obtain ⟨r, er, q⟩ := W_ofO.mp (W_bind.mp q)
  rw [hj] at er
  have er : ds[j]? = some r := er
  rw [hjr] at er
  cases er
  obtain ⟨c, q⟩ := W_guard.mp (W_bind.mp q)
  obtain ⟨ds', eds, q⟩ := W_ofO.mp (W_bind.mp q)
  unfold setAt at eds
  rw [hj] at eds
  cases eds
  have q : PostS C X p0 H0 G0 H G Q (.nx (setE env i (.lst true (ds.set j (.lst true (xs ++ [d])))))) s2 := q
  have efv := r2.noOwn hno
  subst efv
  obtain ⟨p2, vs2, q2, ws2, es2, hp2, hl2, hv2, hq2, hw2, x3, ev3⟩ := row_app2 (j := j) (xs := xs) r2 x2 e1 hjr
  rw [es] at es2
  cases es2
  have ep : H2 p1 = some (.lst vs) := g2.keep p1 _ (by
    obtain ⟨_, hn, _⟩ := re.mem p1 pin
    exact hn) hp
  rw [ep] at hp2
  cases hp2
  rw [hiv] at hv2
  cases hv2
  exact ⟨q1, ws2, v, rfl, rfl, hq2, by rw [hw2]; exact lim_size' c, q _ _ σ ((g1.trans g2).evo.trans ev3) x3⟩
theorem ss_aug {i : Nat} {x : Str} {m : ME} {e : Expr} {px : Pos} (g : Gd C Γ Gs k X) (n : Nm X i x) (hx : Loc X.env.scope x) (hf : X.fn x = true ∨ X.env.scope.names.lookup x = some .local) (he : SE C Γ k X .v m e) : SS C Γ k X (.aug i m) (.AugAssign (.Name x px) .Add e pos) := by
  obtain ⟨te, a1, a2⟩ := he
  refine ⟨_, ps_aug g.nd n.hN hx a1 ip_add hf, fun p0 H0 G0 H G s env σ Q x h => ?_⟩
  rw [run] at h
  obtain ⟨o, e1, q⟩ := getE_sem (W_bind.mp h)
  obtain ⟨w, f, es, r, _⟩ := x.look e1
  refine ⟨w, es, a2 p0 H0 G0 H G s env σ _ x (W_mono (W_bind.mp q) fun d s1 q H1 G1 v fp g1 x1 r1 z1 => ?_)⟩
  have q := W_bind.mp q
  have ko : ∃ a b, o = .int a ∧ d = .int b := by
    unfold augD at q
    split at q
    · exact ⟨_, _, rfl, rfl⟩
    · exact q.elim
  obtain ⟨a, b, rfl, rfl⟩ := ko
  have q : PostS C X p0 H0 G0 H G Q (.nx (setE env i (.int (a + b)))) s1 := q
  rw [int_of r, int_of r1]
  refine ⟨_, _, rfl, rfl, ?_⟩
  refine tg_sem (H0 := H0) (.nm i) (R := fun env' s' => env' = setE env i (.int (a + b)) ∧ s' = s1) (s := s1) (Q := Q.nx) (d := .int (a + b)) (x1.beside Grow.rfl' (Reps.cons int_rep Reps.nil) .nil (by simp)) ⟨rfl, rfl⟩ fun env' σ' q' e => ?_
  rw [q'.1] at e
  exact q _ _ σ' g1.evo (x1.envs e)
end
section
variable {C : Addr} {Γ : String → Option MDef} {Gs : String → Option Int} {k : Nat} {X : Cx} {p0 : Option Addr} {H H1 H2 H' H0 : Hp} {G G1 G2 G' G0 : GS} {s s2 s' : Strm} {env : En} {σ : L2.St} {d : D} {v : V} {fp : List Addr} {st : Bool}
variable {p : Md} {pos pos' : Pos} {j : Nat}
/-! ### what only makes things leaves all else one's own -/
theorem StX.back {K : PySem.W.Frag} {G1 G2 : GS} (x : StX K C p0 H0 G0 H G s env σ) (g : Grow p0 H G1 H' G2) (t : StAt p0 H' G2 s') : StX K C p0 H0 G0 H' G s' env σ ∧ Grow p0 H G H' G := by
  have gr : Grow p0 H G H' G := ⟨g.keep, fun p h => h, fun p o _ h e => h, g.hd⟩
  refine ⟨⟨x.grow.trans gr, fun p hp => ?_, fun p hp => ?_, ?_⟩, gr⟩
  · obtain ⟨pc, a1, a2, a3, a4, a5⟩ := x.strm p hp
    obtain ⟨pc', b1, b2, b3, b4, b5⟩ := t p hp
    obtain ⟨ys, c⟩ := g.hd p _ _ hp a1
    have c' := b1.symm.trans c
    injection c' with c'
    injection c' with c'
    injection c' with c1 c2
    injection c1 with c1
    subst c1
    exact ⟨pc', b1, b2, b3, a4, b5⟩
  · obtain ⟨a, o, b⟩ := x.gs p hp
    exact ⟨a, o, g.keep _ _ a b⟩
  · obtain ⟨fp, a, b, c⟩ := x.env
    exact ⟨fp, a.grow x.pl gr, b, c⟩
/-- a slot lent -/
theorem StX.lendV {i : Nat} {d : D} (x : StX X.K C p0 H0 G0 H G s env σ) (e : env[i]? = some (some d)) : ∃ G1, StX X.K C p0 H0 G0 H G1 s (setE env i d.strip) σ := by
  obtain ⟨fp, re, n, b⟩ := x.env
  obtain ⟨v, f, e1, r, e3, e4, _, h2, _⟩ := re.repl n e
  obtain ⟨fq, q1, q2, q3⟩ := h2 d.strip (fun a => G a ∨ a ∈ f) [] (fun a z => .inl z) (fun a ha hf z => z.elim (fun z => (re.mem a ha).1 z) hf) (r.lend (fun _ z => .inl z) fun a ha => .inr ha) .nil (by simp)
  refine ⟨fun a => G a ∨ a ∈ f, ⟨x.grow.keep, fun p z => .inl (x.grow.gs p z), fun p o np z h => z.elim (fun z => x.grow.new p o np z h) fun z => absurd ((b p (e3 p z)).symm.trans h) (by simp), x.grow.hd⟩, fun p hp => ?_, fun p hp => ?_, fq, q1, q2, fun y hy => ?_⟩
  · obtain ⟨pc, a1, a2, a3, a4, a5⟩ := x.strm p hp
    exact ⟨pc, a1, a2, a3, .inl a4, a5⟩
  · rcases hp with hp | hp
    · exact x.gs p hp
    · obtain ⟨_, a, xs, b⟩ := re.mem p (e3 p hp)
      exact ⟨a, _, b⟩
  · rcases q3 y hy with z | z
    · cases z
    · exact b y z.1
theorem ss_iteF {i : Nat} {c : ME} {a b : MSs} {e : Expr} {as bs : List Stmt} (hc : ST C Γ k X c e) (ha : SSs C Γ k X a as) (hb : SSs C Γ k X b bs) : SS C Γ k X (.iteF i c a b) (.If e as bs pos) := by
  obtain ⟨tc, c1, c2⟩ := hc
  obtain ⟨ta, a1, a2⟩ := ha
  obtain ⟨tb, b1, b2⟩ := hb
  refine ⟨_, ps_if c1 a1 b1, fun p0 H0 G0 H G s env σ Q x h => ?_⟩
  rw [run] at h
  obtain ⟨d, e, q⟩ := getE_sem (W_bind.mp h)
  obtain ⟨Gf, xf⟩ := x.lendV e
  refine c2 p0 H0 G0 H Gf s _ σ _ xf (W_mono (W_bind.mp q) fun r s1 q H1 G1 g1 x1 => ?_)
  obtain ⟨x2, g2⟩ := x.back g1 x1.strm
  cases r with
  | true => exact ite2 (fun _ => a2 p0 H0 G0 H1 G s1 env σ Q x2 (W_mono q fun r s2 q => PostS.evo g2.evo q)) fun z => absurd rfl z
  | false => exact ite2 (fun z => by cases z) fun _ => b2 p0 H0 G0 H1 G s1 env σ Q x2 (W_mono q fun r s2 q => PostS.evo g2.evo q)
/-! ### rows of fractions -/
theorem ratsO_eq : ∀ {ds : List D} {r : List Rat}, ratsO ds = some r → ds = r.map .rat
  | [], r, h => by cases h; rfl
  | .rat q :: ds, r, h => by
    rw [ratsO] at h
    obtain ⟨r', h', rfl⟩ := Option.map_eq_some_iff.mp h
    rw [List.map_cons, ratsO_eq h']
  | .non :: _, _, h => by cases h
  | .bl _ :: _, _, h => by cases h
  | .int _ :: _, _, h => by cases h
  | .str _ :: _, _, h => by cases h
  | .tup _ :: _, _, h => by cases h
  | .lst _ _ :: _, _, h => by cases h
  | .strm :: _, _, h => by cases h
  | .scr _ :: _, _, h => by cases h
theorem rowO_eq {o : Bool} {d : D} {r : List Rat} (h : rowO o d = some r) : d = .lst o (r.map .rat) := by
  unfold rowO at h
  split at h
  · split at h
    · subst_vars
      rw [ratsO_eq h]
    · cases h
  · cases h
theorem rowsO_eq {o : Bool} : ∀ {ds : List D} {rs : List (List Rat)}, rowsO o ds = some rs → ds = rowsD o rs
  | [], rs, h => by cases h; rfl
  | d :: ds, rs, h => by
    rw [rowsO] at h
    split at h
    · rename_i a b ha hb
      cases h
      rw [rowO_eq ha, rowsO_eq hb]
      rfl
    · cases h
theorem rowsOf_eq {o : Bool} {d : D} {rs : List (List Rat)} (h : rowsOf o d = some rs) : d = .lst true (rowsD o rs) := by
  unfold rowsOf at h
  split at h
  · rw [rowsO_eq h]
  · cases h
theorem rats_any {K : PySem.W.Frag} {p0 p1 : Option Addr} {G G1 : GS} : ∀ {r : List Rat} {ws : List V} {f : List Addr}, Reps K C p0 H G (r.map .rat) ws f → f = [] ∧ Reps K C p1 H G1 (r.map .rat) ws []
  | [], ws, f, h => by
    obtain ⟨rfl, rfl⟩ := Reps.nil_iff.mp h
    exact ⟨rfl, Reps.nil⟩
  | q :: r, ws, f, h => by
    obtain ⟨v, r', f1, g, rfl, rfl, a, b⟩ := Reps.cons_iff.mp h
    obtain ⟨rfl, b'⟩ := rats_any (p1 := p1) (G1 := G1) b
    obtain ⟨p, rfl, hp⟩ := rat_of a
    have e : f1 = [] := Rep.noOwn a rfl
    subst e
    exact ⟨rfl, Reps.cons (rat_rep hp) b'⟩
theorem rats_inj {K : PySem.W.Frag} : ∀ {r r' : List Rat} {ws : List V} {f f' : List Addr}, Reps K C p0 H G (r.map .rat) ws f → Reps K C p0 H G (r'.map .rat) ws f' → r = r'
  | [], [], _, _, _, _, _ => rfl
  | [], q :: r', ws, f, f', h, h' => by
    obtain ⟨rfl, _⟩ := Reps.nil_iff.mp h
    obtain ⟨v, r1, f1, g, e, _⟩ := Reps.cons_iff.mp h'
    cases e
  | q :: r, [], ws, f, f', h, h' => by
    obtain ⟨rfl, _⟩ := Reps.nil_iff.mp h'
    obtain ⟨v, r1, f1, g, e, _⟩ := Reps.cons_iff.mp h
    cases e
  | q :: r, q' :: r', ws, f, f', h, h' => by
    obtain ⟨v, r1, f1, g, rfl, rfl, a, b⟩ := Reps.cons_iff.mp h
    obtain ⟨v', r1', f1', g', e, rfl, a', b'⟩ := Reps.cons_iff.mp h'
    cases e
    obtain ⟨p, rfl, dx, fs, h1, h2, h3⟩ := rat_of a
    obtain ⟨p', e, dx', fs', h1', h2', h3'⟩ := rat_of a'
    cases e
    rw [h1] at h1'
    cases h1'
    rw [h2] at h2'
    rw [h3] at h3'
    have e1 : q.num = q'.num := by injection h2' with h; injection h
    have e2 : q.den = q'.den := by injection h3' with h; injection h with h; exact Int.ofNat.inj h
    rw [rats_inj b b', Rat.ext e1 e2]
theorem rows_lend {K : PySem.W.Frag} {G1 : GS} : ∀ {rs : List (List Rat)} {vs : List V} {f : List Addr}, Reps K C p0 H G (rowsD true rs) vs f → (∀ a ∈ f, G1 a) → Reps K C none H G1 (rowsD false rs) vs []
  | [], vs, f, h, _ => by
    obtain ⟨rfl, rfl⟩ := Reps.nil_iff.mp h
    exact Reps.nil
  | r :: rs, vs, f, h, m => by
    obtain ⟨v, r1, f1, g, rfl, rfl, a, b⟩ := Reps.cons_iff.mp (show Reps K C p0 H G (.lst true (r.map .rat) :: rowsD true rs) vs f from h)
    have b' := rows_lend b fun x hx => m x (List.mem_append_right _ hx)
    rw [Rep] at a
    obtain ⟨p, ws, f', rfl, hp, np, q2, q3⟩ := a
    rcases q3 with ⟨_, _, rfl⟩ | ⟨z, _⟩
    · refine Reps.cons (f := []) (g := []) ?_ b'
      rw [Rep]
      exact ⟨p, ws, [], rfl, hp, by simp, (rats_any q2).2, .inr ⟨rfl, m p (List.mem_append_left _ List.mem_cons_self), rfl, rfl⟩⟩
    · cases z
theorem rows_back {K : PySem.W.Frag} {G1 : GS} (hg : ∀ a, G1 a → some a ≠ p0 ∧ ¬ G a) : ∀ {rs : List (List Rat)} {vs : List V} {f : List Addr}, Reps K C none H G1 (rowsD false rs) vs f → rs.Nodup →
    f = [] ∧ ∃ qs : List Addr, (∀ a ∈ qs, G1 a ∧ ∃ r ∈ rs, ∃ ws, H a = some (.lst ws) ∧ Reps K C none H G1 (r.map .rat) ws []) ∧ qs.Nodup ∧ Reps K C p0 H G (rowsD true rs) vs qs
  | [], vs, f, h, _ => by
    obtain ⟨rfl, rfl⟩ := Reps.nil_iff.mp h
    exact ⟨rfl, [], by simp, .nil, Reps.nil⟩
  | r :: rs, vs, f, h, nd => by
    obtain ⟨v, r1, f1, g, rfl, rfl, a, b⟩ := Reps.cons_iff.mp (show Reps K C none H G1 (.lst false (r.map .rat) :: rowsD false rs) vs f from h)
    obtain ⟨n1, n2⟩ := List.nodup_cons.mp nd
    obtain ⟨rfl, qs, h1, h2, h3⟩ := rows_back hg b n2
    rw [Rep] at a
    obtain ⟨p, ws, f', rfl, hp, np, q2, q3⟩ := a
    rcases q3 with ⟨z, _⟩ | ⟨_, gp, rfl, rfl⟩
    · cases z
    · refine ⟨rfl, p :: qs, fun x hx => ?_, List.nodup_cons.mpr ⟨fun hx => ?_, h2⟩, ?_⟩
      · rcases List.mem_cons.mp hx with rfl | hx
        · exact ⟨gp, r, List.mem_cons_self, ws, hp, q2⟩
        · obtain ⟨a1, r', a2, a3⟩ := h1 x hx
          exact ⟨a1, r', List.mem_cons_of_mem _ a2, a3⟩
      · obtain ⟨_, r', m, ws', hp', q2'⟩ := h1 p hx
        rw [hp] at hp'
        cases hp'
        exact n1 (rats_inj q2 q2' ▸ m)
      · refine Reps.cons (f := [p]) (g := qs) ?_ h3
        rw [Rep]
        exact ⟨p, ws, [], rfl, hp, (hg p gp).1, (rats_any q2).2, .inl ⟨rfl, (hg p gp).2, rfl⟩⟩
theorem ss_retu (g : Gd C Γ Gs k X) {f : String} {md : MDef} (hf : Γ f = some md) {i : Nat} {y : Str} {py p1 pc : Pos} (n : Nm X i y) (hg : Gl X (Str.ofString f)) (hd : (Str.ofString f == ("__debug__" : Str)) = false)
    (hs : starEach ((Expr.Name y py) :: []) X.env = (false, eval (.Name y py) X.env) :: starEach [] X.env) : SS C Γ k X (.retu f i) (.Return (some (.Call (.Name (Str.ofString f) p1) [.Name y py] [] pc)) pos) := by
  obtain ⟨fa, fd, ps, F, hm, kp, hb⟩ := g.wd.fn f md hf
  refine ⟨_, ps_ret (pe_call F g.room hg hm kp hb .nil pass0 (pa_cons n.pe pa_nil hs) hd hs rfl), fun p0 H0 G0 H G s env σ Q x h => ?_⟩
  rw [run] at h
  obtain ⟨d0, e, q0⟩ := getE_sem (W_bind.mp h)
  obtain ⟨rs0, er0, q1⟩ := W_ofO.mp (W_bind.mp q0)
  have q2 := W_getS.mp (W_bind.mp q1)
  have q := W_bind.mp q2
  clear q0 q1 q2 h
  have hd0 := rowsOf_eq er0
  clear er0
  subst hd0
  obtain ⟨fe, re, nn, fe0⟩ := x.env
  obtain ⟨v, f1, e1, r, sub, n1, _⟩ := re.repl nn e
  obtain ⟨p1, vs1, f', rfl, hp1, np1, rs1, nG1, rfl, npf1, nf1⟩ := own_of r n1
  obtain ⟨md', em1, em2⟩ := callF_md q
  rw [hf] at em1
  cases em1
  refine ⟨.ref p1, e1, ?_⟩
  show spEv X.K C Γ k f md.np ([.ref p1] ++ []) H Q.rt E0
  have mem1 : ∀ a, a ∈ p1 :: f' → ¬ G a ∧ some a ≠ p0 ∧ ∃ xs, H a = some (.lst xs) := fun a ha => r.mem a ha
  have ra : Rep X.K C none H (fun a => a ∈ p1 :: f') (.lst false (rowsD false rs0)) (.ref p1) [] := by
    rw [Rep]
    exact ⟨p1, vs1, [], rfl, hp1, by simp, rows_lend rs1 fun a ha => List.mem_cons_of_mem _ ha, .inr ⟨rfl, List.mem_cons_self, rfl, rfl⟩⟩
  refine ⟨em2, none, s, fun a => a ∈ p1 :: f', [.lst false (rowsD false rs0)], fun p hp => (by cases hp), fun p hp => ⟨by simp, ?_⟩, Reps.cons (f := []) (g := []) ra Reps.nil, W_mono q fun d s' q H' Ge v fp gr st gs rd n fr => ?_⟩
  · obtain ⟨_, _, xs, h⟩ := mem1 p hp
    exact ⟨_, h⟩
  have q5 : W (ofO (rowsOf false d) >>= fun rs => guardM rs.Nodup >>= fun _ => pure (Fl.ret (.lst true (rowsD true rs)))) s (PostS C X p0 H0 G0 H G Q) := q
  clear q
  obtain ⟨rs, er, q6⟩ := W_ofO.mp (W_bind.mp q5)
  obtain ⟨nd, q7⟩ := W_guard.mp (W_bind.mp q6)
  have q : PostS C X p0 H0 G0 H G Q (.ret (.lst true (rowsD true rs))) s := q7
  have hdd := rowsOf_eq er
  clear q5 q6 q7 er
  subst hdd
  have keep : ∀ p o, H p = some o → H' p = some o := fun p o h => gr.keep p o (by simp) h
  have gG : Grow p0 H G H' G := ⟨fun p o _ h => keep p o h, fun p h => h, fun _ _ _ h _ => h, fun p y ys _ h => ⟨ys, keep p _ h⟩⟩
  have hGe : ∀ a, Ge a → a ∈ p1 :: f' ∨ H a = none := fun a ha => by
    cases hh : H a with
    | none => exact .inr rfl
    | some o => exact .inl (gr.new a o (by simp) ha hh)
  have free : ∀ a, H a = none → some a ≠ p0 ∧ ¬ G a ∧ H0 a = none := fun a ha => by
    refine ⟨ne_p0 x.pl ha, fun z => ?_, grow_none x.grow x.pl ha⟩
    obtain ⟨_, o, h⟩ := x.gs a z
    rw [ha] at h
    cases h
  have hgg : ∀ a, Ge a → some a ≠ p0 ∧ ¬ G a := fun a ha => by
    rcases hGe a ha with z | z
    · exact ⟨(mem1 a z).2.1, (mem1 a z).1⟩
    · exact ⟨(free a z).1, (free a z).2.1⟩
  rw [Rep] at rd
  obtain ⟨p2, vs2, f2, rfl, hp2, _, rs2, q3⟩ := rd
  rcases q3 with ⟨_, ng2, rfl⟩ | ⟨z, _⟩
  case inr => cases z
  obtain ⟨rfl, qs, k1, k2, k3⟩ := rows_back (p0 := p0) (G := G) hgg rs2 nd
  have fr2 := fr p2 List.mem_cons_self
  refine q H' G (.ref p2) (p2 :: qs) (x.grow.trans gG) (fun p hp => ?_) (fun p hp => ?_) ?_ (List.nodup_cons.mpr ⟨fun z => ng2 (k1 p2 z).1, k2⟩) fun a ha => ?_
  · obtain ⟨pc, a1, a2, a3, a4, a5⟩ := x.strm p hp
    exact ⟨pc, keep _ _ a1, keep _ _ a2, a3, a4, a5⟩
  · obtain ⟨a, o, b⟩ := x.gs p hp
    exact ⟨a, o, keep _ _ b⟩
  · rw [Rep]
    exact ⟨p2, vs2, qs, rfl, hp2, (free p2 fr2).1, k3, .inl ⟨rfl, (free p2 fr2).2.1, rfl⟩⟩
  · rcases List.mem_cons.mp ha with rfl | ha
    · exact (free _ fr2).2.2
    · rcases hGe a (k1 a ha).1 with z | z
      · exact fe0 a (sub a z)
      · exact (free a z).2.2
theorem sp0L_len : ∀ {ds rs : List D}, sp0L ds = some rs → rs.length = ds.length
  | [], rs, h => by cases h; rfl
  | d :: ds, rs, h => by
    rw [sp0L] at h
    split at h
    · rename_i a b _ hb
      cases h
      rw [List.length_cons, List.length_cons, sp0L_len hb]
    · cases h
theorem sp0L_get : ∀ {ds rs : List D} {j : Nat} {d : D}, sp0L ds = some rs → ds[j]? = some d → ∃ r, rs[j]? = some r ∧ sp01 d = some r
  | [], _, _, _, _, e => by simp at e
  | d :: ds, rs, j, x, h, e => by
    rw [sp0L] at h
    split at h
    · rename_i a b ha hb
      cases h
      cases j with
      | zero =>
        have e' : d = x := by simpa using e
        subst e'
        exact ⟨a, rfl, ha⟩
      | succ j => exact sp0L_get hb (j := j) (by simpa using e)
    · cases h
theorem ss_spoil0 (g : Gd C Γ Gs k X) {t i : Nat} {y z : Str} {py pz apos cpos pe : Pos} {k2 : Nat} {c2 : Pos} {tg : Expr} (ni : Nm X i y) (nz : Nm X t z) (hg : PG X tg (gT X.K (.nm t))) (hline : (apos.endLine == cpos.line) = true) :
    SS C Γ k X (.spoil0 t i) (.For tg (.Name y py) [.Expr (.Call (.Attribute (.Name z pz) "append" apos) [.Constant (.int 0) k2 c2] [] cpos) pe] [] pos) := by
  refine ⟨_, ps_for g.po g.calm (pi_seq ni.pe) hg (pss_cons (ps_expr (pe_bm PySem.F.plainAttrs_list PySem.F.slot_list_append PySem.F.type_list_append mt_append nz.pe (pa_cons pe_int pa_nil rfl) rfl rfl hline rfl rfl) rfl) pss_nil) (fun _ => rfl), fun p0 H0 G0 H G s env σ Q x h => ?_⟩
  rw [run] at h
  obtain ⟨⟨hti, htl⟩, h⟩ := W_guard.mp (W_bind.mp h)
  obtain ⟨o, e1, q⟩ := getE_sem (W_bind.mp h)
  have q := W_bind.mp q
  unfold sp0D at q
  split at q
  · rename_i ds _
    obtain ⟨rs, er, q⟩ := W_ofO.mp (W_bind.mp q)
    have q : PostS C X p0 H0 G0 H G Q (.nx (setE (env.set t none) i (.lst true rs))) s := q
    have xk : StX X.K C p0 H0 G0 H G s (env.set t none) σ := x.kill [t]
    have e1' : (env.set t none)[i]? = some (some (.lst true ds)) := by rw [List.getElem?_set_ne hti]; exact e1
    have hil : i < (env.set t none).length := (List.getElem?_eq_some_iff.mp e1').1
    have hrl := sp0L_len er
    obtain ⟨fe, re, nn, fe0⟩ := xk.env
    obtain ⟨p1, vs, f, es, hp, rs1, nf, npf, pin, sub, nG, _⟩ := own_write xk re nn fe0 e1'
    refine ⟨_, es, p1, rfl, .inl ⟨⟨_, SqL.of hp⟩, ?_⟩⟩
    let Inv : Nat → L2.St → Hp → Prop := fun j σ' Hi => Evo p0 H G Hi G ∧ σ'[i]? = some (some (.ref p1)) ∧ StX X.K C p0 H0 G0 Hi G s (setE (env.set t none) i (.lst true (rs.take j ++ ds.drop j))) σ'
    refine ⟨fun j mm σ' Hi => mm = ds.length - j ∧ j ≤ ds.length ∧ Inv j σ' Hi, ⟨ds.length, by simp, Nat.zero_le _, Grow.rfl'.evo, es, ?_⟩, ?_⟩
    · have : setE (env.set t none) i (.lst true (rs.take 0 ++ ds.drop 0)) = env.set t none := by
        unfold setE
        apply List.ext_getElem?
        intro l
        by_cases hl : i = l
        · subst hl
          rw [List.getElem?_set_self hil, e1']
          rfl
        · rw [List.getElem?_set_ne hl]
      rw [this]
      exact xk
    · rintro j mm σ' Hi ⟨rfl, hle, ei, esi, xi⟩
      have ej : (setE (env.set t none) i (.lst true (rs.take j ++ ds.drop j)))[i]? = some (some (.lst true (rs.take j ++ ds.drop j))) := by
        unfold setE
        rw [List.getElem?_set_self hil]
      by_cases hlt : j < ds.length
      · obtain ⟨r, hr, hs⟩ := sp0L_get er (List.getElem?_eq_getElem hlt)
        have hdj : ∃ xs, ds[j] = .lst true xs ∧ xs.length < LIM ∧ r = .lst true (xs ++ [.int 0]) := by
          generalize ds[j] = d at hs
          unfold sp01 at hs
          split at hs
          · split at hs
            · rename_i hl
              cases hs
              exact ⟨_, rfl, hl, rfl⟩
            · cases hs
          · cases hs
        obtain ⟨xs, hd, hxl, rfl⟩ := hdj
        have hlen : (rs.take j).length = j := by rw [List.length_take]; omega
        have hrow : (rs.take j ++ ds.drop j)[j]? = some (.lst true xs) := by
          rw [List.getElem?_append_right (by omega), hlen, Nat.sub_self, List.getElem?_drop, Nat.add_zero, List.getElem?_eq_getElem hlt, hd]
        obtain ⟨p2, vs2, q1, ws, es2, hp2, hl2, hv2, hq2, hw2, x3, ev3⟩ := row_app0 xi ej hrow
        rw [esi] at es2
        cases es2
        refine .inr ⟨⟨vs2, _, SqL.of hp2, hv2⟩, Inv (j + 1), fun σ2 H2 n => ⟨ds.length - (j + 1), by omega, rfl, hlt, n⟩, fun v H3 hy => ?_⟩
        obtain ⟨rfl, hy⟩ := hy
        have := hy vs2 (SqL.of hp2)
        rw [hv2] at this
        cases this
        have hsl : t < σ'.length := by
          obtain ⟨_, re', _⟩ := xi.env
          rw [← re'.length]
          unfold setE
          rw [List.length_set, List.length_set]
          exact htl
        have est : (σ'.set t (some (.ref q1)))[t]? = some (some (.ref q1)) := List.getElem?_set_self hsl
        refine ⟨_, est, .inl ⟨rfl, _, SqL.of hq2⟩, ⟨q1, _, .int 0, rfl, rfl, hq2, ?_, ?_⟩⟩
        · rw [hw2]
          exact lim_size' hxl
        · have q0 := 0
          have eset : (rs.take j ++ ds.drop j).set j (.lst true (xs ++ [.int 0])) = rs.take (j + 1) ++ ds.drop (j + 1) := by
            rw [List.set_append_right _ _ (by omega), hlen, Nat.sub_self, List.drop_eq_getElem_cons hlt, List.set_cons_zero, List.take_add_one, hr]
            simp
          rw [eset] at x3
          refine ⟨ei.trans ev3, by rw [List.getElem?_set_ne hti]; exact esi, ?_⟩
          have ee : setE (setE (env.set t none) i (.lst true (rs.take j ++ ds.drop j))) i (.lst true (rs.take (j + 1) ++ ds.drop (j + 1))) = setE (env.set t none) i (.lst true (rs.take (j + 1) ++ ds.drop (j + 1))) := by
            unfold setE
            rw [List.set_set]
          rw [ee] at x3
          obtain ⟨fr, r1, r2, r3⟩ := x3.env
          exact x3.envs ⟨fr, r1.put (by
            unfold setE
            rw [List.getElem?_set_ne (Ne.symm hti), List.getElem?_set_self htl]), r2, r3⟩
      · have : j = ds.length := by omega
        subst this
        rw [List.drop_length, List.append_nil, List.take_of_length_le (by omega)] at xi ej
        obtain ⟨fe2, re2, nn2, fe02⟩ := xi.env
        obtain ⟨p2, vs2, _, es2, hp2, rs2, _⟩ := own_write xi re2 nn2 fe02 ej
        rw [esi] at es2
        cases es2
        exact .inl ⟨⟨vs2, SqL.of hp2, by rw [← rs2.length]; omega⟩, q Hi G σ' ei xi⟩
  · exact q.elim
end
end Mp

namespace Mp
open PySem PySem.Spec
open PyProof.Rows L2
/-! ### the look at a def's text -/
def visC (sc : Scope) (x : Str) : Bool := match sc.names.lookup x with | some .local => true | some .cell => true | some .free => true | _ => false
def locC (sc : Scope) (x : Str) : Bool := match sc.names.lookup x with | some .local => true | some .cell => true | _ => false
def glC (sc : Scope) (x : Str) : Bool := match sc.names.lookup x with | some .globalImplicit => true | _ => false
def plainN (x : Str) : Bool := !(x == ("__debug__" : Str)) && !(x == ("__classdict__" : Str))
def nmC (N : List Str) (sc : Scope) (i : Nat) (x : Str) : Bool := decide (N[i]? = some x) && (visC sc x && plainN x)
def noStar : Expr → Bool
  | .Starred .. => false
  | _ => true
def noSet : Expr → Bool
  | .Set .. => false
  | _ => true
def noComp : Expr → Bool
  | .ListComp .. => false
  | .SetComp .. => false
  | .DictComp .. => false
  | _ => true
def noTup : Expr → Bool
  | .Tuple .. => false
  | _ => true
def isTup : Expr → Bool
  | .Tuple .. => true
  | _ => false
def noSlice : Expr → Bool
  | .Slice .. => false
  | _ => true
def noCall0 : Expr → Bool
  | .Call (.Name _ _) [] [] _ => false
  | _ => true
/-- the names of a target, in order -/
def namesC (N : List Str) (ok : Str → Bool) : List Nat → List Expr → Bool
  | [], [] => true
  | i :: is, .Name x _ :: es => (decide (N[i]? = some x) && ok x) && namesC N ok is es
  | _, _ => false
def tgC (N : List Str) (ok : Str → Bool) : Tg → Expr → Bool
  | .nm i, .Name x _ => decide (N[i]? = some x) && ok x
  | .tup is, .Tuple es _ _ => namesC N ok is es
  | _, _ => false
def ownOf (N : List Str) (t : Tg) : List (Str × Nat) := t.slots.map fun i => ((N[i]?).getD ("" : Str), i)
section
variable (N : List Str) (Γ : String → Option MDef) (Gs : String → Option Int)
mutual
def embE (sc : Scope) : ME → Expr → Bool
  | .nop, _ => false
  | .non, e => match e with
    | .Constant .none _ _ => true
    | _ => false
  | .bl b, e => match e with
    | .Constant (.bool c) _ _ => decide (b = c)
    | _ => false
  | .int i, e => match e with
    | .Constant (.int j) _ _ => decide (i = j)
    | _ => false
  | .str s, e => match e with
    | .Constant (.str t) _ _ => decide (Str.ofString s = t)
    | _ => false
  | .var i, e => match e with
    | .Name x _ => nmC N sc i x
    | _ => false
  | .glob z i, e => match e with
    | .Name x _ => decide (Str.ofString z = x) && (decide (Gs z = some i) && (glC sc x && plainN x))
    | _ => false
  | .bin op a b, e => match e with
    | .BinOp x o y _ => decide (opP op = o) && (embE sc a x && embE sc b y)
    | _ => false
  | .neg a, e => match e with
    | .UnaryOp .USub x _ => embE sc a x
    | _ => false
  | .cmp op a b, e => match e with
    | .Compare x [o] [y] _ => (decide (op = o) && !behindInMarks o y) && (embE sc a x && embE sc b y)
    | _ => false
  | .chain op op' a b c, e => match e with
    | .Compare x [o, o'] [y, z] _ => ((decide (op = o) && decide (op' = o')) && !lastMarks [o, o'] [y, z]) && (embE sc a x && (embE sc b y && embE sc c z))
    | _ => false
  | .not a, e => match e with
    | .UnaryOp .Not x _ => embE sc a x
    | _ => false
  | .and a b, e => match e with
    | .BoolOp .And [x, y] _ => embE sc a x && embE sc b y
    | .BoolOp .And (x :: y :: z :: rest) p => embE sc a x && embE sc b (.BoolOp .And (y :: z :: rest) p)
    | _ => false
  | .or a b, e => match e with
    | .BoolOp .Or [x, y] _ => embE sc a x && embE sc b y
    | .BoolOp .Or (x :: y :: z :: rest) p => embE sc a x && embE sc b (.BoolOp .Or (y :: z :: rest) p)
    | _ => false
  | .ifx c a b, e => match e with
    | .IfExp z x y _ => embE sc c z && (embE sc a x && embE sc b y)
    | _ => false
  | .ix a k, e => match e with
    | .Subscript x y _ => noSlice y && (embE sc a x && embE sc k y)
    | _ => false
  | .sl a lo hi, e => match e with
    | .Subscript x (.Slice l h none _) _ => embE sc a x && ((match l with | none => isNop lo | some e => embE sc lo e) && (match h with | none => isNop hi | some e => embE sc hi e))
    | _ => false
  | .top a, e => match e with
    | .Attribute x n _ => (decide (n = ("top" : Str)) && noCall0 x) && embE sc a x
    | _ => false
  | .bot a, e => match e with
    | .Attribute x n _ => (decide (n = ("bottom" : Str)) && noCall0 x) && embE sc a x
    | _ => false
  | .tup as, e => match e with
    | .Tuple es _ _ => decide (as.len ≤ LIM) && embAs sc as es
    | _ => false
  | .lst as, e => match e with
    | .List es _ => decide (as.len ≤ LIM) && embAs sc as es
    | _ => false
  | .call f as, e => match e with
    | .Call (.Name x _) es [] _ => (decide (Str.ofString f = x) && (Γ f).isSome) && ((glC sc x && plainN x) && embAs sc as es)
    | _ => false
  | .bi b as, e => match e with
    | .Call (.Name x _) (e :: es) [] _ => (decide (bfName b = x) && glC sc x) && embAs sc as (e :: es)
    | _ => false
  | .mk as, e => match e with
    | .Call (.Name x _) (e :: es) [] _ => (decide (("Ratio" : Str) = x) && glC sc x) && embAs sc as (e :: es)
    | _ => false
  | .isi a t, e => match e with
    | .Call (.Name x _) [e, .Name y _] [] _ => (decide (("isinstance" : Str) = x) && glC sc x) && ((decide (tyName t = y) && glC sc y) && (noStar e && embE sc a e))
    | _ => false
  | .lc t it c e, e0 => match e0 with
    | .ListComp elt [⟨tg, iter, ifs, as⟩] scope _ => (decide (as = 0) && (noSet iter && blkC N sc scope (ownOf N t))) && (tgC N (locC scope) t tg && (embI sc tg it iter && (embE (relS scope sc) e elt && (match ifs with | [] => isNop c | [z] => embE (relS scope sc) c z | _ => false))))
    | _ => false
  | .mkI a, e => match e with
    | .Call (.Name x _) [.Constant (.int i) _ _, y] [] _ => (decide (("Ratio" : Str) = x) && (decide (i = 1) && glC sc x)) && (noStar y && embE sc a y)
    | _ => false
  | .jn a, e => match e with
    | .Call (.Attribute (.Constant (.str w) _ _) n ap) [x] [] cp => (decide (w = (⟨#[]⟩ : Str)) && decide (n = ("join" : Str))) && ((ap.endLine == cp.line) && (noStar x && embE sc a x))
    | _ => false
  | .rev a, e => match e with
    | .Subscript x (.Slice none none (some (.UnaryOp .USub (.Constant (.int 1) _ _) _)) _) _ => embE sc a x
    | _ => false
  | .lrg a, e => match e with
    | .Call (.Name x _) [.Call (.Name y _) [z] [] _] [] _ => (decide (("list" : Str) = x) && glC sc x) && ((decide (("range" : Str) = y) && glC sc y) && (noStar z && embE sc a z))
    | _ => false
  | .ln a, e => match e with
    | .Call (.Name x _) [z] [] _ => (decide (("len" : Str) = x) && glC sc x) && (noStar z && embE sc a z)
    | _ => false
  | .fz a, e => match e with
    | .ListComp elt gs scope pos => embE sc a (.ListComp elt gs scope pos)
    | .Call f es [] pos => embE sc a (.Call f es [] pos)
    | .List es pos => embE sc a (.List es pos)
    | _ => false
def embAs (sc : Scope) : MEs → List Expr → Bool
  | .nil, [] => true
  | .cons a as, e :: es => noStar e && (embE sc a e && embAs sc as es)
  | _, _ => false
def embI (sc : Scope) (tg : Expr) : MI → Expr → Bool
  | .enum a, e => match e with
    | .Call (.Name x _) [e] [] _ => (isTup tg && (decide (("enumerate" : Str) = x) && glC sc x)) && (noStar e && embE sc a e)
    | _ => false
  | .zip a b, e => match e with
    | .Call (.Name x _) [e, e'] [] _ => (isTup tg && (decide (("zip" : Str) = x) && glC sc x)) && ((noStar e && noStar e') && (embE sc a e && embE sc b e'))
    | _ => false
  | .seq a, e => embE sc a e
  | .rng a, e => match e with
    | .Call (.Name x _) [e] [] _ => (decide (("range" : Str) = x) && glC sc x) && (noStar e && embE sc a e)
    | _ => false
  | .rng2 a b, e => match e with
    | .Call (.Name x _) [e, e'] [] _ => (decide (("range" : Str) = x) && glC sc x) && ((noStar e && noStar e') && (embE sc a e && embE sc b e'))
    | _ => false
end
def embO (sc : Scope) (m : ME) : Option Expr → Bool
  | none => isNop m
  | some e => embE N Γ Gs sc m e
def embIf (sc : Scope) (m : ME) : List Expr → Bool
  | [] => isNop m
  | [e] => embE N Γ Gs sc m e
  | _ => false
def notFz : ME → Bool
  | .fz _ => false
  | _ => true
/-- name = [..] as the text stores it -/
def swC (sc : Scope) (y : Str) (py : Pos) (scope : Scope) (p : Pos) : Bool := (sc.names.lookup y == some .local) && (py.line == p.line) && !(scope.names.any fun (n, k) => n == y && (k == .local || k == .cell))
def parC (sc : Scope) (x y : Str) (px py : Pos) (a b : Expr) : Bool :=
  (decide (sc.names.lookup x = some .local) && decide (sc.names.lookup y = some .local)) && ((decide (py.line = px.line) && !(x == y)) && ((noStar a && noStar b) && (!([a, b].all (foldedForSure 8)) && !([a, b].all (constantsAlone 8)))))
mutual
def embS (sc : Scope) : MS → Stmt → Bool
  | .frz _, _ => false
  | .kil _, _ => false
  | .asg (.nm i) m, e => match e with
    | .Assign [.Name y py] (.ListComp elt gs scope p) _ => (decide (N[i]? = some y) && locC sc y) && (notFz m && embE N Γ Gs sc m (.ListComp elt gs scope p))
    | .Assign [.Name y _] e _ => (decide (N[i]? = some y) && locC sc y) && (noComp e && embE N Γ Gs sc m e)
    | _ => false
  | .asg (.tup is) m, e => match e with
    | .Assign [.Tuple es a p] e _ => namesC N (locC sc) is es && (noTup e && (noComp e && embE N Γ Gs sc m e))
    | _ => false
  | .par i j m m', e => match e with
    | .Assign [.Tuple [.Name x px, .Name y py] _ _] (.Tuple [a, b] _ _) _ => (decide (N[i]? = some x) && decide (N[j]? = some y)) && (decide (i ≠ j) && (parC sc x y px py a b && (embE N Γ Gs sc m a && embE N Γ Gs sc m' b)))
    | _ => false
  | .aug i m, e => match e with
    | .AugAssign (.Name x _) .Add e _ => nmC N sc i x && (locC sc x && embE N Γ Gs sc m e)
    | _ => false
  | .set1 i k m, e => match e with
    | .Assign [.Subscript (.Name x _) ek _] e _ => nmC N sc i x && (noSlice ek && (embE N Γ Gs sc k ek && embE N Γ Gs sc m e))
    | _ => false
  | .set2 i k l m, e => match e with
    | .Assign [.Subscript (.Subscript (.Name x _) ek _) el _] e _ => nmC N sc i x && ((noSlice ek && noSlice el) && (embE N Γ Gs sc k ek && (embE N Γ Gs sc l el && embE N Γ Gs sc m e)))
    | _ => false
  | .app i m, e => match e with
    | .Expr (.Call (.Attribute (.Name x _) n ap) [e] [] cp) _ => nmC N sc i x && ((decide (n = ("append" : Str)) && (ap.endLine == cp.line)) && (noStar e && embE N Γ Gs sc m e))
    | _ => false
  | .ext i m, e => match e with
    | .Expr (.Call (.Attribute (.Name x _) n ap) [e] [] cp) _ => nmC N sc i x && ((decide (n = ("extend" : Str)) && (ap.endLine == cp.line)) && (noStar e && embE N Γ Gs sc m e))
    | _ => false
  | .ins i k m, e => match e with
    | .Expr (.Call (.Attribute (.Name x _) n ap) [ek, e] [] cp) _ => nmC N sc i x && ((decide (n = ("insert" : Str)) && (ap.endLine == cp.line)) && ((noStar ek && noStar e) && (embE N Γ Gs sc k ek && embE N Γ Gs sc m e)))
    | _ => false
  | .pop t i m, e => match e with
    | .Assign [.Name y _] (.Call (.Attribute (.Name x _) n ap) [e] [] cp) _ => nmC N sc i x && ((decide (n = ("pop" : Str)) && (ap.endLine == cp.line)) && ((decide (N[t]? = some y) && locC sc y) && (noStar e && embE N Γ Gs sc m e)))
    | _ => false
  | .exp m, e => match e with
    | .Expr e _ => noComp e && embE N Γ Gs sc m e
    | _ => false
  | .ret m, e => match e with
    | .Return (some e) _ => embE N Γ Gs sc m e
    | _ => false
  | .retv i, e => match e with
    | .Return (some (.Name x _)) _ => nmC N sc i x
    | _ => false
  | .retN, e => match e with
    | .Return none _ => true
    | _ => false
  | .ite c a b, e => match e with
    | .If e as bs _ => embE N Γ Gs sc c e && (embSs sc a as && embSs sc b bs)
    | _ => false
  | .loop t it body _, e => match e with
    | .For tg iter bs [] _ => (tgC N (locC sc) t tg && noSet iter) && (embI N Γ Gs sc tg it iter && embSs sc body bs)
    | _ => false
  | .while _ c body _, e => match e with
    | .While e bs [] _ => embE N Γ Gs sc c e && embSs sc body bs
    | _ => false
  | .brk, e => match e with
    | .Break _ => true
    | _ => false
  | .cont, e => match e with
    | .Continue _ => true
    | _ => false
  | .pass, e => match e with
    | .Pass _ => true
    | _ => false
  | .appm i j, e => match e with
    | .Expr (.Call (.Attribute (.Name x _) n ap) [.Name y _] [] cp) _ => nmC N sc i x && ((decide (n = ("append" : Str)) && (ap.endLine == cp.line)) && nmC N sc j y)
    | _ => false
  | .spoil t i, e => match e with
    | .For tg (.Name y _) [.Assign [.Subscript (.Name x _) (.Constant (.int 0) _ _) _] (.Constant .none _ _) _, .Expr (.Call (.Attribute (.Name z _) n ap) [.Constant (.int 0) _ _] [] cp) _] [] _ =>
      tgC N (locC sc) (.nm t) tg && (nmC N sc i y && (nmC N sc t x && (nmC N sc t z && (decide (n = ("append" : Str)) && (ap.endLine == cp.line)))))
    | _ => false
  | .app2 i k m, e => match e with
    | .Expr (.Call (.Attribute (.Subscript (.Name x _) ek _) n ap) [e] [] cp) _ => nmC N sc i x && ((decide (n = ("append" : Str)) && (ap.endLine == cp.line)) && ((noSlice ek && noStar e) && (embE N Γ Gs sc k ek && embE N Γ Gs sc m e)))
    | _ => false
  | .retu f i, e => match e with
    | .Return (some (.Call (.Name x _) [.Name y _] [] _)) _ => (decide (Str.ofString f = x) && (Γ f).isSome) && ((glC sc x && plainN x) && nmC N sc i y)
    | _ => false
  | .iteF i c a b, e => match e with
    | .If e as bs _ => embE N Γ Gs sc c e && (embSs sc a as && embSs sc b bs)
    | _ => false
  | .spoil0 t i, e => match e with
    | .For tg (.Name y _) [.Expr (.Call (.Attribute (.Name z _) n ap) [.Constant (.int 0) _ _] [] cp) _] [] _ =>
      tgC N (locC sc) (.nm t) tg && (nmC N sc i y && (nmC N sc t z && (decide (n = ("append" : Str)) && (ap.endLine == cp.line))))
    | _ => false
  | .app0 i, e => match e with
    | .Expr (.Call (.Attribute (.Subscript (.Name x _) (.Constant (.int 0) _ _) _) n ap) [.Constant (.int 0) _ _] [] cp) _ => nmC N sc i x && (decide (n = ("append" : Str)) && (ap.endLine == cp.line))
    | _ => false
  | .mv i j, e => match e with
    | .Assign [.Name y _] (.Name x _) _ => nmC N sc j x && (decide (N[i]? = some y) && locC sc y)
    | _ => false
  | .raise _, _ => true
def embSs (sc : Scope) : MSs → List Stmt → Bool
  | .nil, [] => true
  | .cons (.frz _) ms, es => embSs sc ms es
  | .cons (.kil _) ms, es => embSs sc ms es
  | .cons m ms, e :: es => embS sc m e && embSs sc ms es
  | _, _ => false
end
end
end Mp

namespace Mp
open PySem PySem.Spec
open PyProof.Rows L2
section
variable {C : Addr} {Γ : String → Option MDef} {Gs : String → Option Int} {k : Nat} {X : Cx}
theorem vis_by {sc : Scope} {x : Str} (h : visC sc x = true) : Vis sc x := by
  unfold visC at h
  split at h
  · exact .inl ‹_›
  · exact .inr (.inl ‹_›)
  · exact .inr (.inr ‹_›)
  · cases h
theorem loc_by {sc : Scope} {x : Str} (h : locC sc x = true) : Loc sc x := by
  unfold locC at h
  split at h
  · exact .inl ‹_›
  · exact .inr ‹_›
  · cases h
theorem gl_by {x : Str} (h : glC X.env.scope x = true) : Gl X x := by
  unfold glC at h
  split at h
  · assumption
  · cases h
theorem plain_by {x : Str} (h : plainN x = true) : (x == ("__debug__" : Str)) = false ∧ (x == ("__classdict__" : Str)) = false := by
  unfold plainN at h
  simpa using h
theorem nm_by {i : Nat} {x : Str} (h : nmC X.N X.env.scope i x = true) : Nm X i x := by
  unfold nmC at h
  simp only [Bool.and_eq_true, decide_eq_true_eq] at h
  obtain ⟨h1, h2, h3⟩ := h
  exact ⟨h1, vis_by h2, (plain_by h3).1, (plain_by h3).2⟩
theorem star_by {e : Expr} (h : noStar e = true) (es : List Expr) (env : Env) : starEach (e :: es) env = (false, eval e env) :: starEach es env := by
  cases e <;> first | rfl | cases h
theorem set_by {e : Expr} (h : noSet e = true) (env : Env) : ∀ x, foldedSetIterable e env x = pure x := by
  cases e <;> first | (intro x; rfl) | cases h
theorem call0_by {e : Expr} (h : noCall0 e = true) (n : Str) (env : Env) (w : Sem Value) : attributeBase e n env w = w := by
  cases e <;> try rfl
  rename_i f as ks p
  cases f <;> try rfl
  cases as <;> try rfl
  cases ks <;> first | rfl | cases h
theorem slice_by {e : Expr} (h : noSlice e = true) : PlainIx e := by
  cases e <;> first | (intro o i; rfl) | cases h
theorem swN_by {e : Expr} (h : noComp e = true) (t : Option Expr) (l : Nat) (env : Env) : swapsWith e t l env = pure false := by
  cases e <;> first | rfl | cases h
theorem sub_by {o i : Expr} {p : Pos} (h : noSlice i = true) (env : Env) : ∀ v, assign (.Subscript o i p) env v = (do
      let ov ← holding [v] (eval o env)
      let iv ← holding [v, ov] (eval i env)
      standAt p
      holding [v, ov, iv] (setItem ov iv v)
      release [v, ov, iv] []) := by
  cases i <;> first | (intro v; rfl) | cases h
/-! ### expressions -/
def OkT (C : Addr) (Γ : String → Option MDef) (k : Nat) (X : Cx) (m : ME) (e : Expr) : Prop := match e with
  | .BoolOp .. => SW C Γ k X m e
  | _ => ST C Γ k X m e
theorem OkT.st {m : ME} {e : Expr} (h : OkT C Γ k X m e) : ST C Γ k X m e := by
  cases e <;> first | exact h | exact SW.st _ _ h
structure OkE (C : Addr) (Γ : String → Option MDef) (k : Nat) (X : Cx) (m : ME) (e : Expr) : Prop where
  se : ∀ p, p ≠ .t → SE C Γ k X p m e
  tt : OkT C Γ k X m e
theorem OkE.v {m : ME} {e : Expr} (h : OkE C Γ k X m e) : SE C Γ k X .v m e := h.se .v (by decide)
theorem OkE.p {m : ME} {e : Expr} (h : OkE C Γ k X m e) : SE C Γ k X .p m e := h.se .p (by decide)
theorem OkE.t {m : ME} {e : Expr} (h : OkE C Γ k X m e) : ST C Γ k X m e := h.tt.st
structure OkA (C : Addr) (Γ : String → Option MDef) (k : Nat) (X : Cx) (m : MEs) (es : List Expr) : Prop where
  av : SA C k X true (fun env => evs (callF Γ k) env m) es
  ap : SA C k X false (fun env => evas (callF Γ k) env m) es
  ab : SAB C k X (fun env => evbs (callF Γ k) env m) es
  pl : ∀ pos, (backTo pos (starEach es X.env)).any (·.1) = false
  st : ∀ e r, es = e :: r → starEach (e :: r) X.env = (false, eval e X.env) :: starEach r X.env
  tl : ∀ e r, es = e :: r → ∀ pos, (backTo pos (starEach r X.env)).any (·.1) = false
theorem okE_of {m : ME} {e : Expr} (h : ∀ p, SE C Γ k X p m e) (he : ∀ whole, isTrue e X.env whole = (do let v ← whole; standAt e.pos; holding [v] (truthy v))) (hn : OkT C Γ k X m e = ST C Γ k X m e) : OkE C Γ k X m e :=
  ⟨fun p _ => h p, by rw [hn]; exact (h .t).t he⟩
theorem pgs_by (ok : Str → Bool) (hN : X.N.Nodup) (hok : ∀ x, ok x = true → Loc X.env.scope x ∧ (X.fn x = true ∨ X.env.scope.names.lookup x = some .local)) : ∀ {is : List Nat} {es : List Expr}, namesC X.N ok is es = true →
    PGs X es (gNs is) ∧ (assignEach es X.env).length = is.length ∧ (assignEach es X.env).findIdx? (·.1) = none
  | [], [], _ => ⟨pgs_nil, rfl, rfl⟩
  | [], _ :: _, h => by simp [namesC] at h
  | _ :: _, [], h => by simp [namesC] at h
  | i :: is, e :: es, h => by
    cases e with
    | Name x pos =>
      unfold namesC at h
      simp only [Bool.and_eq_true, decide_eq_true_eq] at h
      obtain ⟨⟨h1, h2⟩, h3⟩ := h
      obtain ⟨a, b, c⟩ := pgs_by ok hN hok h3
      obtain ⟨l, f⟩ := hok x h2
      refine ⟨pgs_cons (pg_name hN h1 l f) a, ?_, ?_⟩
      · show ((false, assign (.Name x pos) X.env) :: assignEach es X.env).length = _
        rw [List.length_cons, b]; rfl
      · show ((false, assign (.Name x pos) X.env) :: assignEach es X.env).findIdx? (·.1) = none
        rw [List.findIdx?_cons, c]; rfl
    | _ => simp [namesC] at h
theorem pg_by (ok : Str → Bool) (hc : X.calm = true) (hN : X.N.Nodup) (hok : ∀ x, ok x = true → Loc X.env.scope x ∧ (X.fn x = true ∨ X.env.scope.names.lookup x = some .local)) {t : Tg} {tg : Expr} (h : tgC X.N ok t tg = true) : PG X tg (gT X.K t) := by
  cases t with
  | nm i =>
    cases tg with
    | Name x pos =>
      unfold tgC at h
      simp only [Bool.and_eq_true, decide_eq_true_eq] at h
      obtain ⟨l, f⟩ := hok x h.2
      exact pg_name hN h.1 l f
    | _ => simp [tgC] at h
  | tup is =>
    cases tg with
    | Tuple es kk pos =>
      obtain ⟨a, b, c⟩ := pgs_by ok hN hok (show namesC X.N ok is es = true from h)
      have q1 := pg_tup (k := kk) (pos := pos) hc a b c
      have q2 := pg_unl (k := kk) (pos := pos) hc a b c
      exact ⟨fun pins s σ H v u Q I r h => h.elim (q1.run pins s σ H v u Q I r) (q2.run pins s σ H v u Q I r)⟩
    | _ => simp [tgC] at h
end
end Mp

namespace Mp
open PySem PySem.Spec
open PyProof.Rows L2
section
variable {C : Addr} {Γ : String → Option MDef} {Gs : String → Option Int} {k : Nat}
theorem some_md {f : String} (h : (Γ f).isSome = true) : ∃ md, Γ f = some md := Option.isSome_iff_exists.mp h
theorem own_slots {N : List Str} {t : Tg} : (ownOf N t).map (·.2) = t.slots := by
  unfold ownOf
  rw [List.map_map]
  exact List.map_id' _
theorem gd_blk {X : Cx} (g : Gd C Γ Gs k X) (s : Shared) (H : Hp) (scope : Scope) (cenv : Env) (fp : List Addr) : Gd C Γ Gs k (X.blk s H scope cenv fp) := ⟨g.wd, g.calm, PassesOwn.never, g.nd, g.room⟩
theorem tg_blk {X : Cx} (g : Gd C Γ Gs k X) {scope : Scope} {t : Tg} {tg : Expr} (h : tgC X.N (locC scope) t tg = true) (s : Shared) (H : Hp) (C' : Addr) (cl : List (Str × Addr)) (fp : List Addr) : PG (X.blk s H scope (compEnvC scope cl C' X.env) fp) tg (gT X.K t) :=
  pg_by (X := X.blk s H scope (compEnvC scope cl C' X.env) fp) (locC scope) g.calm g.nd (fun x hx => by
    rcases loc_by hx with h | h
    · exact ⟨.inl (lookup_relS_keep (by decide) h), .inr (lookup_relS_keep (by decide) h)⟩
    · exact ⟨.inr (lookup_relS_keep (by decide) h), .inl (by show (scope.names.lookup x == some NameKind.cell) = true; rw [h]; rfl)⟩) h
theorem swap_lc {X : Cx} {sc : Scope} {y : Str} {py p : Pos} {elt : Expr} {gs : List Comprehension} {scope : Scope} {l : Nat} (hk : X.env.scope.kind = .function) :
    swapsWith (.ListComp elt gs scope p) (some (.Name y py)) l X.env = pure (swC X.env.scope y py scope p) := by
  have e : swapsWith (.ListComp elt gs scope p) (some (.Name y py)) l X.env = pure (X.env.blockKind == .function && X.env.kindOf y == some .local && py.line == p.line
      && !(scope.names.any fun (n, k) => n == y && (k == .local || k == .cell))) := rfl
  rw [e]
  have b : X.env.blockKind = .function := by
    unfold Env.blockKind
    rw [hk]; rfl
  rw [b]
  rfl
theorem isNop_eq {m : ME} (h : isNop m = true) : m = .nop := by
  cases m <;> first | rfl | cases h
theorem nop_emb {N : List Str} {sc : Scope} {m : ME} {e : Expr} (h : embE N Γ Gs sc m e = true) : isNop m = false := by
  cases m <;> first | rfl | (unfold embE at h; cases h)
theorem embO_ok' {m : ME} {o : Option Expr} {X : Cx} (ih : ∀ e, embE X.N Γ Gs X.env.scope m e = true → OkE C Γ k X m e) (h : (match o with | none => isNop m | some e => embE X.N Γ Gs X.env.scope m e) = true) : SO C Γ k X m o := by
  cases o with
  | none =>
    cases isNop_eq h
    exact so_none
  | some e => exact so_some (ih e h).v (nop_emb h)
theorem embIf_ok' {m : ME} {es : List Expr} {X : Cx} (ih : ∀ e, embE X.N Γ Gs X.env.scope m e = true → OkE C Γ k X m e) (h : (match es with | [] => isNop m | [e] => embE X.N Γ Gs X.env.scope m e | _ => false) = true) : PTs X es (tCond X.K C Γ k m) := by
  cases es with
  | nil =>
    cases isNop_eq h
    exact pts_nil
  | cons e es =>
    cases es with
    | nil =>
      have n := nop_emb h
      unfold tCond
      rw [if_neg (by rw [n]; decide)]
      exact pts_one (ih e h).t.canon
    | cons e' es => cases h
mutual
theorem embE_ok : ∀ (m : ME) {e : Expr} {X : Cx}, Gd C Γ Gs k X → embE X.N Γ Gs X.env.scope m e = true → OkE C Γ k X m e
  | .nop, e, X, g, h => by unfold embE at h; cases h
  | .non, e, X, g, h => by
    unfold embE at h
    split at h
    · exact okE_of (fun p => se_non) (fun _ => rfl) rfl
    · cases h
  | .bl b, e, X, g, h => by
    unfold embE at h
    split at h
    · cases of_decide_eq_true h
      exact okE_of (fun p => se_bl) (fun _ => rfl) rfl
    · cases h
  | .int b, e, X, g, h => by
    unfold embE at h
    split at h
    · cases of_decide_eq_true h
      exact okE_of (fun p => se_int) (fun _ => rfl) rfl
    · cases h
  | .str b, e, X, g, h => by
    unfold embE at h
    split at h
    · cases of_decide_eq_true h
      exact okE_of (fun p => se_str) (fun _ => rfl) rfl
    · cases h
  | .var i, e, X, g, h => by
    unfold embE at h
    split at h
    · have n := nm_by h
      exact okE_of (fun p => se_var n.hN n.hv n.hd n.hcd) (fun _ => rfl) rfl
    · cases h
  | .glob z i, e, X, g, h => by
    unfold embE at h
    split at h
    · simp only [Bool.and_eq_true, decide_eq_true_eq] at h
      obtain ⟨rfl, h2, h3, h4⟩ := h
      exact okE_of (fun p => se_glob g h2 (gl_by h3) (plain_by h4).1) (fun _ => rfl) rfl
    · cases h
  | .bin op a b, e, X, g, h => by
    unfold embE at h
    split at h
    · simp only [Bool.and_eq_true, decide_eq_true_eq] at h
      obtain ⟨rfl, h2, h3⟩ := h
      exact okE_of (fun p => se_bin g (embE_ok a g h2).p (embE_ok b g h3).p) (fun _ => rfl) rfl
    · cases h
  | .neg a, e, X, g, h => by
    unfold embE at h
    split at h
    · exact okE_of (fun p => se_neg g (embE_ok a g h).v) (fun _ => rfl) rfl
    · cases h
  | .cmp op a b, e, X, g, h => by
    unfold embE at h
    split at h
    · simp only [Bool.and_eq_true, decide_eq_true_eq, Bool.not_eq_true'] at h
      obtain ⟨⟨rfl, h1⟩, h2, h3⟩ := h
      have q := fun p pos => se_cmp (p := p) (pos := pos) g (embE_ok a g h2).p (embE_ok b g h3).p h1
      exact ⟨fun p _ => (q p _).1, (q .p _).2⟩
    · cases h
  | .chain op op' a b c, e, X, g, h => by
    unfold embE at h
    split at h
    · simp only [Bool.and_eq_true, decide_eq_true_eq, Bool.not_eq_true'] at h
      obtain ⟨⟨⟨rfl, rfl⟩, h1⟩, h2, h3, h4⟩ := h
      have q := fun p pos => se_chain (p := p) (pos := pos) g (embE_ok a g h2).v (embE_ok b g h3).v (embE_ok c g h4).v h1
      exact ⟨fun p _ => (q p _).1, (q .p _).2⟩
    · cases h
  | .not a, e, X, g, h => by
    unfold embE at h
    split at h
    · have q := embE_ok a g h
      exact ⟨fun p hp => se_not q.p hp, st_not q.t⟩
    · cases h
  | .and a b, e, X, g, h => by
    unfold embE at h
    split at h
    · simp only [Bool.and_eq_true] at h
      have qa := embE_ok a g h.1
      have qb := embE_ok b g h.2
      exact ⟨fun p hp => se_and qa.v (se_one qb.v) hp, sw_and qa.t (sw_and1 qb.t)⟩
    · simp only [Bool.and_eq_true] at h
      have qa := embE_ok a g h.1
      have qb := embE_ok b g h.2
      exact ⟨fun p hp => se_and qa.v qb.v hp, sw_and qa.t qb.tt⟩
    · cases h
  | .or a b, e, X, g, h => by
    unfold embE at h
    split at h
    · simp only [Bool.and_eq_true] at h
      have qa := embE_ok a g h.1
      have qb := embE_ok b g h.2
      exact ⟨fun p hp => se_or qa.v (se_one qb.v) hp, sw_or qa.t (sw_or1 qb.t)⟩
    · simp only [Bool.and_eq_true] at h
      have qa := embE_ok a g h.1
      have qb := embE_ok b g h.2
      exact ⟨fun p hp => se_or qa.v qb.v hp, sw_or qa.t qb.tt⟩
    · cases h
  | .ifx c a b, e, X, g, h => by
    unfold embE at h
    split at h
    · simp only [Bool.and_eq_true] at h
      obtain ⟨h1, h2, h3⟩ := h
      have qc := embE_ok c g h1
      have qa := embE_ok a g h2
      have qb := embE_ok b g h3
      refine ⟨fun p hp => se_ifx qc.t qa.v qb.v hp, ⟨_, pt_nev, fun p0 H0 G0 H G s env σ Q x h => ?_⟩⟩
      unfold tru at h
      rw [ev] at h
      exact (W_bind.mp h).elim
    · cases h
  | .ix a b, e, X, g, h => by
    unfold embE at h
    split at h
    · simp only [Bool.and_eq_true] at h
      obtain ⟨h1, h2, h3⟩ := h
      exact okE_of (fun p => se_ix (embE_ok a g h2).p (embE_ok b g h3).v (slice_by h1)) (fun _ => rfl) rfl
    · cases h
  | .sl a lo hi, e, X, g, h => by
    unfold embE at h
    split at h
    · simp only [Bool.and_eq_true] at h
      obtain ⟨h1, h2, h3⟩ := h
      exact okE_of (fun p => se_sl (embE_ok a g h1).p (embO_ok' (fun e h => embE_ok lo g h) h2) (embO_ok' (fun e h => embE_ok hi g h) h3)) (fun _ => rfl) rfl
    · cases h
  | .top a, e, X, g, h => by
    unfold embE at h
    split at h
    · simp only [Bool.and_eq_true, decide_eq_true_eq] at h
      obtain ⟨⟨rfl, h1⟩, h2⟩ := h
      exact okE_of (fun p => se_top g (embE_ok a g h2).v (call0_by h1 _ _ _)) (fun _ => rfl) rfl
    · cases h
  | .bot a, e, X, g, h => by
    unfold embE at h
    split at h
    · simp only [Bool.and_eq_true, decide_eq_true_eq] at h
      obtain ⟨⟨rfl, h1⟩, h2⟩ := h
      exact okE_of (fun p => se_bot g (embE_ok a g h2).v (call0_by h1 _ _ _)) (fun _ => rfl) rfl
    · cases h
  | .tup as, e, X, g, h => by
    unfold embE at h
    split at h
    · simp only [Bool.and_eq_true, decide_eq_true_eq] at h
      exact okE_of (fun p => se_tup (embAs_ok as g h.2).av h.1) (fun _ => rfl) rfl
    · cases h
  | .lst as, e, X, g, h => by
    unfold embE at h
    split at h
    · simp only [Bool.and_eq_true, decide_eq_true_eq] at h
      exact okE_of (fun p => se_lst (embAs_ok as g h.2).av h.1) (fun _ => rfl) rfl
    · cases h
  | .call f as, e, X, g, h => by
    unfold embE at h
    split at h
    · simp only [Bool.and_eq_true, decide_eq_true_eq] at h
      obtain ⟨⟨rfl, h1⟩, ⟨h2, h3⟩, h4⟩ := h
      obtain ⟨md, hf⟩ := some_md h1
      have A := embAs_ok as g h4
      rename_i es _
      cases es with
      | nil =>
        cases as with
        | nil => exact okE_of (fun p => se_call0 g hf (gl_by h2) (plain_by h3).1) (fun _ => rfl) rfl
        | cons a as => unfold embAs at h4; cases h4
      | cons e es => exact okE_of (fun p => se_call g hf A.ap (gl_by h2) (plain_by h3).1 (A.st _ _ rfl) (A.tl _ _ rfl _)) (fun _ => rfl) rfl
    · cases h
  | .bi b as, e, X, g, h => by
    unfold embE at h
    split at h
    · simp only [Bool.and_eq_true, decide_eq_true_eq] at h
      obtain ⟨⟨rfl, h1⟩, h2⟩ := h
      have A := embAs_ok as g h2
      exact okE_of (fun p => se_bi g A.ab (gl_by h1) (A.st _ _ rfl) (A.tl _ _ rfl _)) (fun _ => rfl) rfl
    · cases h
  | .mk as, e, X, g, h => by
    unfold embE at h
    split at h
    · simp only [Bool.and_eq_true, decide_eq_true_eq] at h
      obtain ⟨⟨rfl, h1⟩, h2⟩ := h
      have A := embAs_ok as g h2
      exact okE_of (fun p => se_mk g A.av (gl_by h1) (A.st _ _ rfl) (A.tl _ _ rfl _)) (fun _ => rfl) rfl
    · cases h
  | .isi a t, e, X, g, h => by
    unfold embE at h
    split at h
    · simp only [Bool.and_eq_true, decide_eq_true_eq] at h
      obtain ⟨⟨rfl, h1⟩, ⟨rfl, h2⟩, h3, h4⟩ := h
      exact okE_of (fun p => se_isi g (embE_ok a g h4).p (gl_by h1) (gl_by h2) (star_by h3 _ _) rfl) (fun _ => rfl) rfl
    · cases h
  | .lc t it c e', e, X, g, h => by
    unfold embE at h
    split at h
    · simp only [Bool.and_eq_true, decide_eq_true_eq] at h
      obtain ⟨⟨rfl, h1, h2⟩, h3, h4, h5, h6⟩ := h
      exact okE_of (fun p => (se_lc g (embI_ok it g h4) (blkOk_by h2) own_slots (tg_blk g h3)
        (fun s H C' cl fp => embIf_ok' (fun e h => embE_ok c (gd_blk g s H _ _ fp) h) h6)
        (fun s H C' cl fp => (embE_ok e' (gd_blk g s H _ _ fp) h5).v) (set_by h1 _)).1) (fun _ => rfl) rfl
    · cases h
  | .mkI a, e, X, g, h => by
    unfold embE at h
    split at h
    · simp only [Bool.and_eq_true, decide_eq_true_eq] at h
      obtain ⟨⟨rfl, rfl, h1⟩, h2, h3⟩ := h
      exact okE_of (fun p => se_mkI g se_int (embE_ok a g h3).v (gl_by h1) rfl (star_by h2 _ _) (by rw [star_by h2 _ _]; rfl)) (fun _ => rfl) rfl
    · cases h
  | .jn a, e, X, g, h => by
    unfold embE at h
    split at h
    · simp only [Bool.and_eq_true, decide_eq_true_eq] at h
      obtain ⟨⟨h1, rfl⟩, h2, h3, h4⟩ := h
      exact okE_of (fun p => se_jn (embE_ok a g h4).v h1 (star_by h3 [] X.env) h2) (fun _ => rfl) rfl
    · cases h
  | .rev a, e, X, g, h => by
    unfold embE at h
    split at h
    · exact okE_of (fun p => se_rev (embE_ok a g h).v) (fun _ => rfl) rfl
    · cases h
  | .lrg a, e, X, g, h => by
    unfold embE at h
    split at h
    · simp only [Bool.and_eq_true, decide_eq_true_eq] at h
      obtain ⟨⟨rfl, h1⟩, ⟨rfl, h2⟩, h3, h4⟩ := h
      exact okE_of (fun p => se_lrg g (embE_ok a g h4).v (gl_by h1) (gl_by h2) (star_by h3 _ _)) (fun _ => rfl) rfl
    · cases h
  | .ln a, e, X, g, h => by
    unfold embE at h
    split at h
    · simp only [Bool.and_eq_true, decide_eq_true_eq] at h
      obtain ⟨⟨rfl, h1⟩, h2, h3⟩ := h
      exact okE_of (fun p => se_ln g (embE_ok a g h3).p (gl_by h1) (star_by h2 _ _)) (fun _ => rfl) rfl
    · cases h
  | .fz a, e, X, g, h => by
    unfold embE at h
    split at h
    · exact okE_of (fun p => se_fz (embE_ok a g h).v) (fun _ => rfl) rfl
    · exact okE_of (fun p => se_fz (embE_ok a g h).v) (fun _ => rfl) rfl
    · exact okE_of (fun p => se_fz (embE_ok a g h).v) (fun _ => rfl) rfl
    · cases h
theorem embAs_ok : ∀ (m : MEs) {es : List Expr} {X : Cx}, Gd C Γ Gs k X → embAs X.N Γ Gs X.env.scope m es = true → OkA C Γ k X m es
  | .nil, es, X, g, h => by
    cases es with
    | nil => exact ⟨sa_nil (fun env => by rw [evs]), sa_nil (fun env => by rw [evas]), sab_nil (fun env => by rw [evbs]), fun _ => rfl, fun _ _ z => (by cases z), fun _ _ z => (by cases z)⟩
    | cons e es => unfold embAs at h; cases h
  | .cons a as, es, X, g, h => by
    cases es with
    | nil => unfold embAs at h; cases h
    | cons e es =>
      unfold embAs at h
      simp only [Bool.and_eq_true] at h
      obtain ⟨h1, h2, h3⟩ := h
      have q := embE_ok a g h2
      have A := embAs_ok as g h3
      have hs := star_by h1 es X.env
      have e1 : (fun env => evs (callF Γ k) env (.cons a as)) = fun env => (do let d ← ev (callF Γ k) env .v a; let ds ← evs (callF Γ k) env as; pure (d :: ds)) := by funext env; rw [evs]
      have e2 : (fun env => evas (callF Γ k) env (.cons a as)) = fun env => (do let d ← ev (callF Γ k) env .p a; let ds ← evas (callF Γ k) env as; pure (d :: ds)) := by funext env; rw [evas]
      have e3 : (fun env => evbs (callF Γ k) env (.cons a as)) = fun env => (do let d ← bw a (ev (callF Γ k) env .p a); let ds ← evbs (callF Γ k) env as; pure (d :: ds)) := by funext env; rw [evbs]
      refine ⟨e1 ▸ sa_cons q.v A.av (fun _ => rfl) hs, e2 ▸ sa_cons q.p A.ap (fun z => by cases z) hs, e3 ▸ sab_cons q.p A.ab hs, fun pos => ?_, fun _ _ z => ?_, fun _ _ z pos => ?_⟩
      · rw [hs]
        exact A.pl pos
      · cases z; exact hs
      · cases z; exact A.pl pos
theorem embI_ok : ∀ (m : MI) {tg e : Expr} {X : Cx}, Gd C Γ Gs k X → embI X.N Γ Gs X.env.scope tg m e = true → SI C Γ k X tg m e
  | .seq a, tg, e, X, g, h => by
    unfold embI at h
    exact si_seq (embE_ok a g h).v
  | .rng a, tg, e, X, g, h => by
    unfold embI at h
    split at h
    · simp only [Bool.and_eq_true, decide_eq_true_eq] at h
      obtain ⟨⟨rfl, h1⟩, h2, h3⟩ := h
      exact si_rng g (embE_ok a g h3).v (gl_by h1) (star_by h2 _ _)
    · cases h
  | .rng2 a b, tg, e, X, g, h => by
    unfold embI at h
    split at h
    · simp only [Bool.and_eq_true, decide_eq_true_eq] at h
      obtain ⟨⟨rfl, h1⟩, ⟨h2, h3⟩, h4, h5⟩ := h
      exact si_rng2 g (embE_ok a g h4).v (embE_ok b g h5).v (gl_by h1) ((star_by h2 _ _).trans (congrArg _ (star_by h3 _ _))) (star_by h3 _ _)
    · cases h
  | .enum a, tg, e, X, g, h => by
    unfold embI at h
    split at h
    · simp only [Bool.and_eq_true, decide_eq_true_eq] at h
      obtain ⟨⟨h0, rfl, h1⟩, h2, h3⟩ := h
      cases tg <;> first | exact si_enum g (embE_ok a g h3).v (gl_by h1) (star_by h2 _ _) | cases h0
    · cases h
  | .zip a b, tg, e, X, g, h => by
    unfold embI at h
    split at h
    · simp only [Bool.and_eq_true, decide_eq_true_eq] at h
      obtain ⟨⟨h0, rfl, h1⟩, ⟨h2, h3⟩, h4, h5⟩ := h
      cases tg <;> first | exact si_zip g (embE_ok a g h4).v (embE_ok b g h5).v (gl_by h1) ((star_by h2 _ _).trans (congrArg _ (star_by h3 _ _))) (star_by h3 _ _) | cases h0
    · cases h
end
end
end Mp

namespace Mp
open PySem PySem.Spec
open PyProof.Rows L2
section
variable {C : Addr} {Γ : String → Option MDef} {Gs : String → Option Int} {k : Nat}
/-- a def's own body: all stores land -/
structure Bd (X : Cx) : Prop where
  kind : X.env.scope.kind = .function
  fn : ∀ x, X.fn x = true
theorem Bd.bk {X : Cx} (b : Bd X) : X.env.blockKind = .function := by
  unfold Env.blockKind
  rw [b.kind]; rfl
theorem Bd.ok {X : Cx} (b : Bd X) : ∀ x, locC X.env.scope x = true → Loc X.env.scope x ∧ (X.fn x = true ∨ X.env.scope.names.lookup x = some .local) := fun x h => ⟨loc_by h, .inl (b.fn x)⟩
theorem ss_lc {t : Tg} {it : MI} {c e' : ME} {i : Nat} {y : Str} {py p pos : Pos} {elt : Expr} {gs : List Comprehension} {scope : Scope} {X : Cx} (g : Gd C Γ Gs k X) (bd : Bd X) (hi : X.N[i]? = some y) (hl : locC X.env.scope y = true)
    (h : embE X.N Γ Gs X.env.scope (.lc t it c e') (.ListComp elt gs scope p) = true) : SS C Γ k X (.asg (.nm i) (.lc t it c e')) (.Assign [.Name y py] (.ListComp elt gs scope p) pos) := by
  have E := embE_ok (.lc t it c e') g h
  have sw := swap_lc (y := y) (py := py) (p := p) (elt := elt) (gs := gs) (scope := scope) (l := pos.line) (sc := X.env.scope) bd.kind
  cases hs : swC X.env.scope y py scope p with
  | false =>
    rw [hs] at sw
    exact ss_asg E.v (pg_name g.nd hi (loc_by hl) (.inl (bd.fn y))) sw rfl rfl
  | true =>
    rw [hs] at sw
    have hy : X.env.scope.names.lookup y = some .local := by
      unfold swC at hs
      simp only [Bool.and_eq_true, beq_iff_eq] at hs
      exact hs.1.1
    unfold embE at h
    split at h
    · rename_i heq
      cases heq
      simp only [Bool.and_eq_true, decide_eq_true_eq] at h
      obtain ⟨⟨rfl, h1, h2⟩, h3, h4, h5, h6⟩ := h
      exact ss_asgC ((se_lc (p := .v) (pos := p) g (embI_ok it g h4) (blkOk_by h2) own_slots (tg_blk g h3)
        (fun s H C' cl fp => embIf_ok' (fun e h => embE_ok c (gd_blk g s H _ _ fp) h) h6)
        (fun s H C' cl fp => (embE_ok e' (gd_blk g s H _ _ fp) h5).v) (set_by h1 _)).2 hi hy sw)
    · cases h
theorem lc_form {N : List Str} {sc : Scope} {m : ME} {elt : Expr} {gs : List Comprehension} {scope : Scope} {p : Pos} (nf : notFz m = true) (h : embE N Γ Gs sc m (.ListComp elt gs scope p) = true) : ∃ t it c e', m = .lc t it c e' := by
  cases m with
  | lc t it c e' => exact ⟨t, it, c, e', rfl⟩
  | fz a => cases nf
  | _ => unfold embE at h; simp at h
theorem star_match {a : Expr} (z : (match a with | .Starred .. => true | _ => false) = true) (h : noStar a = true) : False := by
  cases a <;> first | (cases z; done) | cases h
theorem swS_by {e t : Expr} (h : noComp e = true) (l : Nat) (env : Env) : swapsWithSole [t] e l env = pure false := swN_by h (some t) l env
theorem par_st {sc : Scope} {x y : Str} {px py : Pos} {a b : Expr} (h : parC sc x y px py a b = true) : noStar a = true ∧ noStar b = true := by
  unfold parC at h
  simp only [Bool.and_eq_true] at h
  exact h.2.2.1
theorem par_by {X : Cx} (bd : Bd X) {x y : Str} {px py pt pt2 : Pos} {a b : Expr} {kt k2 : Nat} (h : parC X.env.scope x y px py a b = true) :
    X.env.scope.names.lookup x = some .local ∧ X.env.scope.names.lookup y = some .local ∧ swappedStores [.Tuple [.Name x px, .Name y py] kt pt] (.Tuple [a, b] k2 pt2) X.env = pure (some [x, y]) := by
  unfold parC at h
  simp only [Bool.and_eq_true, decide_eq_true_eq, Bool.not_eq_true'] at h
  obtain ⟨⟨h1, h2⟩, ⟨h3, h4⟩, ⟨h5, h6⟩, h7, h8⟩ := h
  refine ⟨h1, h2, ?_⟩
  have ns : ([a, b].any fun | .Starred .. => true | _ => false) = false := by
    cases a <;> first | (cases h5; done) | (cases b <;> first | (cases h6; done) | rfl)
  have k1 : X.env.kindOf x = some .local := h1
  have k2' : X.env.kindOf y = some .local := h2
  have yx : (y == x) = false := by
    rw [← h4]
    exact Bool.eq_iff_iff.mpr ⟨fun z => by rw [beq_iff_eq] at z ⊢; exact z.symm, fun z => by rw [beq_iff_eq] at z ⊢; exact z.symm⟩
  have ed : [x, y].eraseDups = [x, y] := by
    rw [List.eraseDups_cons]
    simp only [List.filter_cons, List.filter_nil, yx, Bool.not_false, if_true]
    rw [List.eraseDups_cons]
    rfl
  have f7 : ¬ (foldedForSure 8 a = true ∧ foldedForSure 8 b = true) := fun ⟨z1, z2⟩ => by simp [z1, z2] at h7
  have f8 : ¬ (constantsAlone 8 a = true ∧ constantsAlone 8 b = true) := fun ⟨z1, z2⟩ => by simp [z1, z2] at h8
  unfold swappedStores
  simp [bd.bk, k1, k2', h3, Expr.pos]
  rw [if_neg, if_pos (by rw [ed]; rfl), if_neg f7, if_neg f8]
  intro z
  rcases z with z | z
  · exact star_match z h5
  · exact star_match z h6
theorem st_noTup {tg e : Expr} (h : noTup e = true) (env : Env) : swappedStores [tg] e env = pure none := by
  cases e <;> first | (cases h; done) | (cases tg <;> rfl)
theorem few1 {X : Cx} {e : Expr} (h : noStar e = true) (cpos : Pos) : ((backTo cpos (starEach [e] X.env)).all (fun x => !x.1) && (backToKw cpos (keywordEach [] X.env)).all (fun x => x.1.isSome) && decide ([e].length + ([] : List Keyword).length + (if ([] : List Keyword).isEmpty then 0 else 1) < 30)) = true := by
  rw [star_by h]; rfl
theorem few2 {X : Cx} {e e' : Expr} (h : noStar e = true) (h' : noStar e' = true) (cpos : Pos) : ((backTo cpos (starEach [e, e'] X.env)).all (fun x => !x.1) && (backToKw cpos (keywordEach [] X.env)).all (fun x => x.1.isSome) && decide ([e, e'].length + ([] : List Keyword).length + (if ([] : List Keyword).isEmpty then 0 else 1) < 30)) = true := by
  rw [star_by h, star_by h']; rfl
mutual
theorem embS_ok : ∀ (m : MS) {e : Stmt} {X : Cx}, Gd C Γ Gs k X → Bd X → embS X.N Γ Gs X.env.scope m e = true → SS C Γ k X m e
  | .frz _, e, X, g, bd, h => by unfold embS at h; cases h
  | .kil _, e, X, g, bd, h => by unfold embS at h; cases h
  | .asg (.nm i) m, e, X, g, bd, h => by
    unfold embS at h
    split at h
    · simp only [Bool.and_eq_true, decide_eq_true_eq] at h
      obtain ⟨⟨h1, h2⟩, h0, h3⟩ := h
      obtain ⟨t, it, c, e', rfl⟩ := lc_form h0 h3
      exact ss_lc g bd h1 h2 h3
    · simp only [Bool.and_eq_true, decide_eq_true_eq] at h
      obtain ⟨⟨h1, h2⟩, h3, h4⟩ := h
      exact ss_asg (embE_ok m g h4).v (pg_name g.nd h1 (loc_by h2) (.inl (bd.fn _))) (swS_by h3 _ _) (by rename_i e _ _; cases e <;> rfl) rfl
    · cases h
  | .asg (.tup is) m, e, X, g, bd, h => by
    unfold embS at h
    split at h
    · simp only [Bool.and_eq_true] at h
      obtain ⟨h1, h2, h3, h4⟩ := h
      exact ss_asg (embE_ok m g h4).v (pg_by (t := .tup is) (locC X.env.scope) g.calm g.nd bd.ok h1) (swS_by h3 _ _) (st_noTup h2 _) rfl
    · cases h
  | .par i j m m', e, X, g, bd, h => by
    unfold embS at h
    split at h
    · simp only [Bool.and_eq_true, decide_eq_true_eq] at h
      obtain ⟨⟨h1, h2⟩, h3, h4, h5, h6⟩ := h
      obtain ⟨p1, p2, p3⟩ := par_by bd h4
      have n := par_st h4
      have A := embAs_ok (X := X) (.cons m (.cons m' .nil)) g (show embAs X.N Γ Gs X.env.scope _ [_, _] = true by
        unfold embAs
        simp only [Bool.and_eq_true]
        refine ⟨n.1, h5, ?_⟩
        unfold embAs
        simp only [Bool.and_eq_true]
        refine ⟨n.2, h6, ?_⟩
        unfold embAs
        rfl)
      exact ss_par g A.av h1 h2 h3 p1 p2 p3
    · cases h
  | .aug i m, e, X, g, bd, h => by
    unfold embS at h
    split at h
    · simp only [Bool.and_eq_true] at h
      exact ss_aug g (nm_by h.1) (loc_by h.2.1) (.inl (bd.fn _)) (embE_ok m g h.2.2).v
    · cases h
  | .set1 i k' m, e, X, g, bd, h => by
    unfold embS at h
    split at h
    · simp only [Bool.and_eq_true] at h
      obtain ⟨h1, h2, h3, h4⟩ := h
      exact ss_set1 (nm_by h1) (embE_ok k' g h3).v (embE_ok m g h4).v (slice_by h2) (by rename_i e _; cases e <;> rfl) (fun a b => pg_sub a b set_list (sub_by h2 _))
    · cases h
  | .set2 i k' l m, e, X, g, bd, h => by
    unfold embS at h
    split at h
    · simp only [Bool.and_eq_true] at h
      obtain ⟨h1, ⟨h2, h3⟩, h4, h5, h6⟩ := h
      exact ss_set2 (nm_by h1) (embE_ok k' g h4).v (embE_ok l g h5).v (embE_ok m g h6).v (slice_by h2) (by rename_i e _; cases e <;> rfl) (fun a b => pg_sub a b set_list (sub_by h3 _))
    · cases h
  | .app i m, e, X, g, bd, h => by
    unfold embS at h
    split at h
    · simp only [Bool.and_eq_true, decide_eq_true_eq] at h
      obtain ⟨h1, ⟨rfl, h2⟩, h3, h4⟩ := h
      exact ss_app (nm_by h1) (embE_ok m g h4).v (star_by h3 _ _) (few1 h3 _) h2
    · cases h
  | .ext i m, e, X, g, bd, h => by
    unfold embS at h
    split at h
    · simp only [Bool.and_eq_true, decide_eq_true_eq] at h
      obtain ⟨h1, ⟨rfl, h2⟩, h3, h4⟩ := h
      exact ss_ext (nm_by h1) (embE_ok m g h4).p (star_by h3 _ _) ⟨few1 h3 _, h2⟩
    · cases h
  | .ins i k' m, e, X, g, bd, h => by
    unfold embS at h
    split at h
    · simp only [Bool.and_eq_true, decide_eq_true_eq] at h
      obtain ⟨h1, ⟨rfl, h2⟩, ⟨h3, h4⟩, h5, h6⟩ := h
      exact ss_ins (nm_by h1) (embE_ok k' g h5).v (embE_ok m g h6).v (star_by h3 _ _) (star_by h4 _ _) (by rw [star_by h4]; rfl) ⟨few2 h3 h4 _, h2⟩
    · cases h
  | .pop t i m, e, X, g, bd, h => by
    unfold embS at h
    split at h
    · simp only [Bool.and_eq_true, decide_eq_true_eq] at h
      obtain ⟨h1, ⟨rfl, h2⟩, ⟨h3, h4⟩, h5, h6⟩ := h
      exact ss_pop (nm_by h1) (embE_ok m g h6).v (star_by h5 _ _) ⟨few1 h5 _, h2⟩ (pg_name g.nd h3 (loc_by h4) (.inl (bd.fn _)))
    · cases h
  | .exp m, e, X, g, bd, h => by
    unfold embS at h
    split at h
    · simp only [Bool.and_eq_true] at h
      exact ss_exp (embE_ok m g h.2).p (swN_by h.1 _ _ _)
    · cases h
  | .ret m, e, X, g, bd, h => by
    unfold embS at h
    split at h
    · exact ss_ret (embE_ok m g h).v
    · cases h
  | .retv i, e, X, g, bd, h => by
    unfold embS at h
    split at h
    · have n := nm_by h
      exact ss_retv n.hN n.hv n.hd n.hcd
    · cases h
  | .retN, e, X, g, bd, h => by
    unfold embS at h
    split at h
    · exact ss_retN
    · cases h
  | .ite c a b, e, X, g, bd, h => by
    unfold embS at h
    split at h
    · simp only [Bool.and_eq_true] at h
      exact ss_ite (embE_ok c g h.1).t (embSs_ok a g bd h.2.1) (embSs_ok b g bd h.2.2)
    · cases h
  | .loop t it body kl, e, X, g, bd, h => by
    unfold embS at h
    split at h
    · simp only [Bool.and_eq_true] at h
      obtain ⟨⟨h1, h2⟩, h3, h4⟩ := h
      exact ss_loop g (embI_ok it g h3) (pg_by (locC X.env.scope) g.calm g.nd bd.ok h1) (embSs_ok body g bd h4) (set_by h2 _)
    · cases h
  | .while n c body kl, e, X, g, bd, h => by
    unfold embS at h
    split at h
    · simp only [Bool.and_eq_true] at h
      exact ss_while g (embE_ok c g h.1).t (embSs_ok body g bd h.2)
    · cases h
  | .brk, e, X, g, bd, h => by
    unfold embS at h
    split at h
    · exact ss_brk
    · cases h
  | .cont, e, X, g, bd, h => by
    unfold embS at h
    split at h
    · exact ss_cont
    · cases h
  | .pass, e, X, g, bd, h => by
    unfold embS at h
    split at h
    · exact ss_pass
    · cases h
  | .appm i j, e, X, g, bd, h => by
    unfold embS at h
    split at h
    · simp only [Bool.and_eq_true, decide_eq_true_eq] at h
      obtain ⟨h1, ⟨rfl, h2⟩, h3⟩ := h
      exact ss_appm (nm_by h1) (nm_by h3) (star_by rfl _ _) (few1 rfl _) h2
    · cases h
  | .spoil t i, e, X, g, bd, h => by
    unfold embS at h
    split at h
    · simp only [Bool.and_eq_true, decide_eq_true_eq] at h
      obtain ⟨h1, h2, h3, h4, rfl, h5⟩ := h
      exact ss_spoil g (nm_by h2) (nm_by h3) (nm_by h4) (pg_by (locC X.env.scope) g.calm g.nd bd.ok h1) h5
    · cases h
  | .app2 i k' m, e, X, g, bd, h => by
    unfold embS at h
    split at h
    · simp only [Bool.and_eq_true, decide_eq_true_eq] at h
      obtain ⟨h1, ⟨rfl, h2⟩, ⟨h3, h4⟩, h5, h6⟩ := h
      exact ss_app2 (nm_by h1) (embE_ok k' g h5).v (embE_ok m g h6).v (slice_by h3) (star_by h4 _ _) (few1 h4 _) h2
    · cases h
  | .retu f i, e, X, g, bd, h => by
    unfold embS at h
    split at h
    · simp only [Bool.and_eq_true, decide_eq_true_eq] at h
      obtain ⟨⟨rfl, h1⟩, ⟨h2, h3⟩, h4⟩ := h
      obtain ⟨md, hf⟩ := some_md h1
      exact ss_retu g hf (nm_by h4) (gl_by h2) (plain_by h3).1 (star_by rfl _ _)
    · cases h
  | .iteF i c a b, e, X, g, bd, h => by
    unfold embS at h
    split at h
    · simp only [Bool.and_eq_true, decide_eq_true_eq] at h
      exact ss_iteF (embE_ok c g h.1).t (embSs_ok a g bd h.2.1) (embSs_ok b g bd h.2.2)
    · cases h
  | .spoil0 t i, e, X, g, bd, h => by
    unfold embS at h
    split at h
    · simp only [Bool.and_eq_true, decide_eq_true_eq] at h
      obtain ⟨h1, h2, h4, rfl, h5⟩ := h
      exact ss_spoil0 g (nm_by h2) (nm_by h4) (pg_by (locC X.env.scope) g.calm g.nd bd.ok h1) h5
    · cases h
  | .app0 i, e, X, g, bd, h => by
    unfold embS at h
    split at h
    · simp only [Bool.and_eq_true, decide_eq_true_eq] at h
      obtain ⟨h1, rfl, h2⟩ := h
      exact ss_app0 (nm_by h1) h2
    · cases h
  | .mv i j, e, X, g, bd, h => by
    unfold embS at h
    split at h
    · simp only [Bool.and_eq_true, decide_eq_true_eq] at h
      exact ss_mv (nm_by h.1) (pg_name g.nd h.2.1 (loc_by h.2.2) (.inl (bd.fn _)))
    · cases h
  | .raise c, e, X, g, bd, h => ss_nev fun env s R w => by rw [run] at w; exact w
theorem embSs_ok : ∀ (m : MSs) {es : List Stmt} {X : Cx}, Gd C Γ Gs k X → Bd X → embSs X.N Γ Gs X.env.scope m es = true → SSs C Γ k X m es
  | .nil, es, X, g, bd, h => by
    cases es with
    | nil => exact sss_nil
    | cons e es => unfold embSs at h; cases h
  | .cons m ms, es, X, g, bd, h => by
    unfold embSs at h
    split at h
    · cases ‹MSs.cons m ms = MSs.nil›
    · cases ‹MSs.cons m ms = _›
      exact sss_frz (embSs_ok ms g bd h)
    · cases ‹MSs.cons m ms = _›
      exact sss_kil (embSs_ok ms g bd h)
    · cases ‹MSs.cons m ms = _›
      simp only [Bool.and_eq_true] at h
      exact sss_cons (embS_ok m g bd h.1) (embSs_ok ms g bd h.2)
    · cases h
end
end
end Mp

namespace Mp
open PySem PySem.Spec
open PyProof.Rows L2
/-- a def of the module, its text looked at -/
structure DefOk (K : PySem.W.Frag) (mg : Str → Option Value) (Γ : String → Option MDef) (Gs : String → Option Int) (f : String) (md : MDef) : Prop where
  ex : ∃ (N ps : List Str) (params : Arguments) (body : List Stmt) (scope : Scope) (fa : Addr) (fd : FuncData), FunD K (Str.ofString f) (Str.ofString f) params body scope [] [] fa fd ∧ FnScope N ps scope ∧ ps.length = md.np ∧ N.length = md.n ∧
    mg (Str.ofString f) = some (.ref fa) ∧ Binds K fd ps [] ∧ embSs N Γ Gs scope md.body body = true
def FnAt (P : Program) (w : World) (K : PySem.W.Frag) (mg : Str → Option Value) (base : Heap) (C : Addr) (Γ : String → Option MDef) (k : Nat) : Prop :=
  ∀ f md, Γ f = some md → ∃ fa fd ps, FnOk P w K mg base CX0 (BASE + k) fa fd ps (spEv K C Γ k f md.np) ∧ mg (Str.ofString f) = some (.ref fa) ∧ PySem.W.keepIn K (.ref fa) = true ∧ Binds K fd ps []
section
variable {P : Program} {w : World} {K : PySem.W.Frag} {mg : Str → Option Value} {base : Heap} {C : Addr} {Γ : String → Option MDef} {Gs : String → Option Int} {k : Nat}
variable {p0 : Option Addr} {H : Hp} {G : GS}
theorem repE_start : ∀ {ds : List D} {vs : List V} (n : Nat), Reps K C p0 H G ds vs [] → RepE K C p0 H G (ds.map some ++ List.replicate n none) (vs.map some ++ List.replicate n none) []
  | [], vs, n, r => by
    obtain ⟨rfl, _⟩ := Reps.nil_iff.mp r
    show RepE K C p0 H G (List.replicate n none) (List.replicate n none) []
    induction n with
    | zero => exact RepE.nil_iff.mpr ⟨rfl, rfl⟩
    | succ n ih => exact RepE.none_iff.mpr ⟨none, _, rfl, ih⟩
  | d :: ds, vs, n, r => by
    obtain ⟨v, r', f, g, rfl, e, a, b⟩ := Reps.cons_iff.mp r
    obtain ⟨rfl, rfl⟩ := List.append_eq_nil_iff.mp e.symm
    exact RepE.some_iff.mpr ⟨v, _, [], [], rfl, rfl, a, repE_start n b⟩
theorem stx_start {ds : List D} {vs : List V} {s : Strm} (n : Nat) (r : Reps K C p0 H G ds vs []) (st : StAt p0 H G s) (gs : ∀ p, G p → some p ≠ p0 ∧ ∃ o, H p = some o) :
    StX K C p0 H G H G s (ds.map some ++ List.replicate n none) (vs.map some ++ List.replicate n none) :=
  ⟨Grow.rfl', st, gs, [], repE_start n r, .nil, by simp⟩
theorem fn_step (hw : Wd P w K mg base C Γ Gs k) (hd : ∀ f md, Γ f = some md → DefOk K mg Γ Gs f md) : FnAt P w K mg base C Γ (k + 1) := by
  intro f md hf
  obtain ⟨N, ps, params, body, scope, fa, fd, F, S, l1, l2, hm, hb, em⟩ := (hd f md hf).ex
  refine ⟨fa, fd, ps, ?_, hm, F.kp, hb⟩
  show FnOk P w K mg base CX0 (BASE + k + 1) fa fd ps _
  refine F.ok S (fun vs H Q E h => by rw [l1]; exact h.1) fun cdv A outer s H vs Q E hr h => ?_
  obtain ⟨hl, p0, st, G, ds, sa, gs, rs, hw'⟩ := h
  have g : Gd C Γ Gs k (cxOf CX0 P w K mg base N (Str.ofString f) scope fa cdv A outer s H E).nox := ⟨hw, rfl, PassesOwn.never, S.nd, hr⟩
  have bd : Bd (cxOf CX0 P w K mg base N (Str.ofString f) scope fa cdv A outer s H E).nox := ⟨S.kind, fun _ => rfl⟩
  obtain ⟨t, a, b⟩ := embSs_ok md.body (X := (cxOf CX0 P w K mg base N (Str.ofString f) scope fa cdv A outer s H E).nox) g bd em
  refine ⟨t, PSs.nox a, ?_⟩
  rw [callF, hf] at hw'
  obtain ⟨hnp, hw'⟩ := W_guard.mp (W_bind.mp hw')
  have x := stx_start (md.n - md.np) rs sa gs
  have e : L2.start N vs = vs.map some ++ List.replicate (md.n - md.np) none := by
    unfold L2.start
    rw [l2, hl]
  rw [e]
  refine b p0 H G H G st _ _ _ x (W_mono (W_bind.mp hw') fun r s' q => ?_)
  cases r with
  | nx env' => exact fun H' G' σ' _ x' => (show ∀ H' G' v fp, Grow p0 H G H' G' → StAt p0 H' G' s' → (∀ p, G' p → some p ≠ p0 ∧ ∃ o, H' p = some o) → Rep K C p0 H' G' .non v fp → fp.Nodup → (∀ a ∈ fp, H a = none) → Q v H' from q) H' G' .non [] x'.grow x'.strm x'.gs non_rep .nil (by simp)
  | ret d => exact fun H' G' v fp g' sa' gs' r' n f' => (show ∀ H' G' v fp, Grow p0 H G H' G' → StAt p0 H' G' s' → (∀ p, G' p → some p ≠ p0 ∧ ∃ o, H' p = some o) → Rep K C p0 H' G' d v fp → fp.Nodup → (∀ a ∈ fp, H a = none) → Q v H' from q) H' G' v fp g' sa' gs' r' n f'
  | brk e => exact q.elim
  | cont e => exact q.elim
theorem fn_zero (hd : ∀ f md, Γ f = some md → DefOk K mg Γ Gs f md) : FnAt P w K mg base C Γ 0 := by
  intro f md hf
  obtain ⟨N, ps, params, body, scope, fa, fd, F, S, l1, l2, hm, hb, em⟩ := (hd f md hf).ex
  refine ⟨fa, fd, ps, ⟨fun vs H Q E h => by rw [l1]; exact h.1, fun A outer s H args us vs Q E hr he hb hv h => ?_⟩, hm, F.kp, hb⟩
  obtain ⟨hl, p0, st, G, ds, sa, gs, rs, hw'⟩ := h
  exact hw'.elim
theorem wd_all (h0 : ∀ k, FnAt P w K mg base C Γ k → Wd P w K mg base C Γ Gs k) (hd : ∀ f md, Γ f = some md → DefOk K mg Γ Gs f md) : ∀ k, Wd P w K mg base C Γ Gs k
  | 0 => h0 0 (fn_zero hd)
  | k + 1 => h0 (k + 1) (fn_step (wd_all h0 hd k) hd)
/-! ### the law's own def -/
theorem repE_nones : ∀ {n : Nat} {r : List (Option V)}, r.length = n → RepE K C p0 H G (List.replicate n none) r []
  | 0, r, h => by
    cases r with
    | nil => exact RepE.nil_iff.mpr ⟨rfl, rfl⟩
    | cons a r => cases h
  | n + 1, r, h => by
    cases r with
    | nil => cases h
    | cons a r => exact RepE.none_iff.mpr ⟨a, r, rfl, repE_nones (Nat.succ.inj h)⟩
/-- a list that was made becomes the stream -/
theorem stx_strm {rr : List (Option V)} {ns : List Int} {d : D} {v1 v2 : V} {f1 f2 : List Addr} {st : Strm} (n : Nat) (gs : ∀ p, G p → some p ≠ none ∧ ∃ o, H p = some o) (r1 : Rep K C none H G (.scr ns) v1 f1) (r2 : Rep K C none H G d v2 f2) (nd : f2.Nodup) (e : strmD d = some st) (hl : st.cells.length ≤ LIM) (hr : rr.length = n) :
    ∃ p G', StX K C (some p) H G' H G' st (some (.scr ns) :: some .strm :: List.replicate n none) (some v1 :: some v2 :: rr) := by
  unfold strmD at e
  split at e
  · rename_i o cs c i m
    obtain ⟨p, vs, f', rfl, hp, np, rs, nG, rfl, pin, nf'⟩ := own_of r2 nd
    obtain ⟨ns', hi, rfl⟩ : ∃ ns', intsD cs = some ns' ∧ st = ⟨ns', c, i, m⟩ := by
      cases hc : intsD cs with
      | none => rw [hc] at e; cases e
      | some ns' => rw [hc] at e; cases e; exact ⟨_, rfl, rfl⟩
    obtain ⟨w1, vr, g1, g2, rfl, rfl, ra, rb⟩ := Reps.cons_iff.mp rs
    obtain ⟨w2, w3, w4, rfl, q2, q3, q4⟩ : ∃ w2 w3 w4, vr = [w2, w3, w4] ∧ w2 = .int c ∧ w3 = .int i ∧ w4 = .int m := by
      obtain ⟨w2, r2, _, _, rfl, _, a2, b2⟩ := Reps.cons_iff.mp rb
      obtain ⟨w3, r3, _, _, rfl, _, a3, b3⟩ := Reps.cons_iff.mp b2
      obtain ⟨w4, r4, _, _, rfl, _, a4, b4⟩ := Reps.cons_iff.mp b3
      obtain ⟨rfl, _⟩ := Reps.nil_iff.mp b4
      exact ⟨_, _, _, rfl, int_of a2, int_of a3, int_of a4⟩
    subst q2 q3 q4
    obtain ⟨pc, ws, gg, rfl, hpc, _, rc, hor⟩ := lst_of ra
    have e2 := reps_ints rc hi
    subst e2
    have ne : pc ≠ p := by
      rw [Rep] at ra
      obtain ⟨p', vs', f'', e', h1, _, _, h3⟩ := ra
      cases e'
      rcases h3 with ⟨_, _, rfl⟩ | ⟨_, hg, _⟩
      · exact fun z => pin (List.mem_append_left _ (by rw [z]; exact List.mem_cons_self))
      · exact fun z => nG (z ▸ hg)
    refine ⟨p, fun a => G a ∨ a = pc, ⟨Grow.rfl', fun q hq => ?_, fun a ha => ?_, [], ?_, .nil, by simp⟩⟩
    · cases hq
      exact ⟨pc, hp, hpc, ne, .inr rfl, hl⟩
    · rcases ha with ha | rfl
      · exact ⟨fun z => nG (by cases z; exact ha), (gs a ha).2⟩
      · exact ⟨fun z => ne (by cases z; rfl), _, hpc⟩
    · refine RepE.some_iff.mpr ⟨v1, _, [], [], rfl, rfl, ?_, RepE.some_iff.mpr ⟨.ref p, _, [], [], rfl, rfl, ?_, ?_⟩⟩
      · rw [Rep] at r1 ⊢
        exact ⟨r1.1, rfl⟩
      · rw [Rep]
        exact ⟨p, rfl, rfl, rfl⟩
      · exact repE_nones hr
  · cases e
/-- the law, by values -/
def LawOk (Γ : String → Option MDef) (k n : Nat) (rest : MSs) : Prop := ∀ ns : List Int, ns.length ≤ 63 → ∃ d st, callF Γ k "_law_stream" [.scr ns] ⟨[], 0, 0, 0⟩ = .ok d ⟨[], 0, 0, 0⟩ ∧ strmD d = some st ∧ st.cells.length ≤ LIM ∧
  ∃ s', runs (callF Γ k) (some (.scr ns) :: some .strm :: List.replicate n none) rest st = .ok (.ret (.bl true)) s'
def spLaw (K : PySem.W.Frag) : Sp := fun vs H Q _ => ∃ (a : Addr) (ns : List Int), vs = [.ref a] ∧ ns.length ≤ 63 ∧ Scr K H a ns ∧ ∀ H', Q (.bl true) H'
theorem scr_of {K : PySem.W.Frag} {H : Hp} {a : Addr} {ns : List Int} (ho : Only H) (h : SqL K H a (ns.map V.int)) : Scr K H a ns := by
  rcases h with (h | ⟨o, h⟩) | h
  · rcases ho a with z | ⟨o, xs, z⟩
    · rw [h] at z; cases z
    · rw [h] at z; cases z
  · exact .inl ⟨o, h⟩
  · exact .inr h
theorem law_fn {N : List Str} {params : Arguments} {body : List Stmt} {scope : Scope} {fa : Addr} {fd : FuncData} {n : Nat} {rest : MSs} (hw : Wd P w K mg base C Γ Gs k) (F : FunD K "law" "law" params body scope [] [] fa fd) (S : FnScope N ["_law_script"] scope) (hn : N.length = n + 2)
    (em : embSs N Γ Gs scope (.cons (.asg (.nm 1) (.call "_law_stream" (.cons (.var 0) .nil))) rest) body = true) (hl : LawOk Γ k n rest) : FnOk P w K mg base CX0 (BASE + k + 1) fa fd ["_law_script"] (spLaw K) := by
  refine F.ok S (fun vs H Q E h => ?_) fun cdv A outer s H vs Q E hr h => ?_
  · obtain ⟨a, ns, rfl, _⟩ := h; rfl
  obtain ⟨a, ns, rfl, hlen, hscr, hQ⟩ := h
  have g : Gd C Γ Gs k (cxOf CX0 P w K mg base N "law" scope fa cdv A outer s H E).nox := ⟨hw, rfl, PassesOwn.never, S.nd, hr⟩
  have bd : Bd (cxOf CX0 P w K mg base N "law" scope fa cdv A outer s H E).nox := ⟨S.kind, fun _ => rfl⟩
  cases body with
  | nil => unfold embSs at em; cases em
  | cons e1 es =>
    unfold embSs at em
    simp only [Bool.and_eq_true] at em
    obtain ⟨t1, a1, b1⟩ := embS_ok _ (X := (cxOf CX0 P w K mg base N "law" scope fa cdv A outer s H E).nox) g bd em.1
    obtain ⟨t2, a2, b2⟩ := embSs_ok rest (X := (cxOf CX0 P w K mg base N "law" scope fa cdv A outer s H E).nox) g bd em.2
    refine ⟨_, PSs.nox (pss_cons a1 a2), ?_⟩
    obtain ⟨d, st, h1, h2, h3, s', h4⟩ := hl ns hlen
    have r0 : Rep K C none H (fun _ => False) (.scr ns) (.ref a) [] := by rw [Rep]; exact ⟨⟨a, rfl, hscr⟩, rfl⟩
    have x0 := stx_start (s := ⟨[], 0, 0, 0⟩) (n + 1) (Reps.cons r0 Reps.nil) (fun p hp => by cases hp) (fun p hp => hp.elim)
    have e0 : L2.start N [V.ref a] = some (.ref a) :: List.replicate (n + 1) none := by
      unfold L2.start
      rw [hn]; rfl
    rw [e0]
    refine b1 none H (fun _ => False) H (fun _ => False) ⟨[], 0, 0, 0⟩ _ _ _ x0 ?_
    rw [run, ev]
    refine W_bind.mpr (W_bind.mpr ?_)
    rw [evas]
    refine W_bind.mpr ?_
    rw [ev]
    show W (do guardM (Md.p ≠ .v ∨ D.noOwn (.scr ns) = true); pure (D.scr ns)) _ _
    refine W_bind.mpr (W_guard.mpr ⟨.inl (by decide), ?_⟩)
    refine W_pure.mpr (W_bind.mpr ?_)
    rw [evas]
    refine W_pure.mpr (W_pure.mpr ?_)
    show W (do let d ← callF Γ k "_law_stream" [.scr ns]; guardM (d.noShr = true ∨ D.noOwns [D.scr ns] = true); pure d) _ _
    refine W_bind.mpr ?_
    have w1 : ∀ R : D → Strm → Prop, R d ⟨[], 0, 0, 0⟩ → W (callF Γ k "_law_stream" [.scr ns]) ⟨[], 0, 0, 0⟩ R := fun R hR => by
      unfold W
      rw [h1]
      exact hR
    refine w1 _ ?_
    show W (do guardM (d.noShr = true ∨ D.noOwns [D.scr ns] = true); pure d) _ _
    refine W_bind.mpr (W_guard.mpr ⟨.inr rfl, ?_⟩)
    intro H1 G1 σ1 ev1 x1
    obtain ⟨fp, re, nfp, _⟩ := x1.env
    obtain ⟨v1, r, f1, g1, rfl, rfl, ra, rb⟩ := RepE.some_iff.mp (show RepE K C none H1 G1 (some (.scr ns) :: some d :: List.replicate n none) σ1 fp from re)
    obtain ⟨v2, r', f2, g2, rfl, rfl, rc, rd⟩ := RepE.some_iff.mp rb
    obtain ⟨p, G', x2⟩ := stx_strm n x1.gs ra rc (nodup_app.mp (nodup_app.mp nfp).2.1).1 h2 h3 (by rw [← rd.length, List.length_replicate])
    refine b2 (some p) H1 G' H1 G' st _ _ _ x2 ?_
    unfold W
    rw [h4]
    intro H2 G2 v fp _ _ _ r _ _
    rw [bl_of r]
    exact hQ H2
end
end Mp

namespace Mp
open PySem PySem.Spec
open PyProof.Rows L2
/-! ### lowest terms -/
def dvr (n d : Int) : Int := if d < 0 then -(Int.gcd n d : Int) else (Int.gcd n d : Int)
theorem dvr_num {n d : Int} (h : d ≠ 0) : n.fdiv (dvr n d) = (Rat.divInt n d).num := by
  rw [Rat.num_divInt]
  unfold dvr
  rw [Int.gcd_comm d n]
  by_cases hd : d < 0
  · rw [if_pos hd, Int.sign_eq_neg_one_of_neg hd]
    have e : n.fdiv (-(Int.gcd n d : Int)) = (-n).fdiv (Int.gcd n d : Int) := by
      have := Int.neg_fdiv_neg (-n) (Int.gcd n d : Int)
      rw [Int.neg_neg] at this
      exact this
    rw [e, Int.fdiv_eq_ediv_of_nonneg _ (Int.natCast_nonneg _)]
    congr 1
    omega
  · rw [if_neg hd, Int.sign_eq_one_of_pos (by omega), Int.fdiv_eq_ediv_of_nonneg _ (Int.natCast_nonneg _), Int.one_mul]
theorem dvr_den {n d : Int} (h : d ≠ 0) : d.fdiv (dvr n d) = ((Rat.divInt n d).den : Int) := by
  rw [Rat.den_divInt, if_neg h]
  unfold dvr
  rw [Int.gcd_comm d n]
  by_cases hd : d < 0
  · rw [if_pos hd]
    have e : d.fdiv (-(Int.gcd n d : Int)) = (-d).fdiv (Int.gcd n d : Int) := by
      have := Int.neg_fdiv_neg (-d) (Int.gcd n d : Int)
      rw [Int.neg_neg] at this
      exact this
    rw [e, Int.fdiv_eq_ediv_of_nonneg _ (Int.natCast_nonneg _), Int.natCast_ediv]
    congr 1
    omega
  · rw [if_neg hd, Int.fdiv_eq_ediv_of_nonneg _ (Int.natCast_nonneg _), Int.natCast_ediv]
    congr 1
    omega
theorem dvr_ne {n d : Int} (h : d ≠ 0) : dvr n d ≠ 0 := by
  have : (Int.gcd n d : Int) ≠ 0 := by
    intro z
    have := Int.gcd_eq_zero_iff.mp (Int.ofNat_eq_zero.mp z)
    exact h this.2
  unfold dvr
  split <;> omega
theorem dvr_log {n d : Int} (h : d ≠ 0) (c : d.natAbs.log2 < 9000) : (dvr n d).natAbs.log2 < 9000 := by
  have e : (dvr n d).natAbs = Int.gcd n d := by
    unfold dvr
    split <;> simp
  rw [e]
  have h1 : Int.gcd n d ≤ d.natAbs := Nat.le_of_dvd (by omega) (Int.gcd_dvd_natAbs_right n d)
  have hd0 : d.natAbs ≠ 0 := by omega
  have hg0 : Int.gcd n d ≠ 0 := fun z => h (Int.gcd_eq_zero_iff.mp z).2
  have := (Nat.log2_lt hd0).mp c
  exact (Nat.log2_lt hg0).mpr (by omega)
theorem dvr_log' {n d : Int} (h : d ≠ 0) (c : d.natAbs.log2 < 9000 ∨ n = 1) : (dvr n d).natAbs.log2 < 9000 := by
  rcases c with c | rfl
  · exact dvr_log h c
  · have e : (dvr 1 d).natAbs = Int.gcd 1 d := by
      unfold dvr
      split <;> simp
    rw [e, Int.gcd_one_left]
    decide
theorem gcd_step {a b : Int} : Int.gcd b (a.fmod b) = Int.gcd a b := by
  have e : a.fmod b = a - b * a.fdiv b := Int.fmod_def a b
  rw [e, Int.sub_eq_add_neg, ← Int.mul_neg, Int.mul_comm, Int.gcd_comm b, Int.gcd_comm a b]
  rw [Int.gcd_comm]
  exact Int.gcd_add_mul_right_right ..
theorem fmod_lt {a b : Int} (h : b ≠ 0) : (a.fmod b).natAbs < b.natAbs := by
  rcases Int.lt_or_gt_of_ne h with h | h
  · have e : (-a).fmod (-b) = -(a.fmod b) := by
      rw [Int.fmod_def, Int.fmod_def, Int.neg_fdiv_neg, Int.neg_mul]
      omega
    have h1 := Int.fmod_nonneg_of_pos (-a) (b := -b) (by omega)
    have h2 := Int.fmod_lt_of_pos (-a) (b := -b) (by omega)
    rw [e] at h1 h2
    omega
  · have h1 := Int.fmod_nonneg_of_pos a h
    have h2 := Int.fmod_lt_of_pos a h
    omega
theorem sm_log {a b : Rat} (h : Sm a) (h' : Sm b) : ((a.den : Int) * (b.den : Int)).natAbs.log2 < 9000 := by
  have e : ((a.den : Int) * (b.den : Int)).natAbs = a.den * b.den := by rw [Int.natAbs_mul, Int.natAbs_natCast, Int.natAbs_natCast]
  rw [e]
  have h0 : a.den * b.den ≠ 0 := Nat.mul_ne_zero a.den_nz b.den_nz
  refine (Nat.log2_lt h0).mpr ?_
  have h1 := h.den
  have h2 := h'.den
  have : a.den * b.den < 2 ^ BIT * 2 ^ BIT := Nat.mul_lt_mul'' h1 h2
  rw [← Nat.pow_add] at this
  exact Nat.lt_of_lt_of_le this (Nat.pow_le_pow_right (by decide) (by unfold BIT; omega))
theorem log_bit {n : Nat} (h : n < 2 ^ BIT) : n.log2 < 4491 := by
  by_cases h0 : n = 0
  · rw [h0]; decide
  · exact Nat.lt_succ_of_lt ((Nat.log2_lt h0).mpr h)
theorem sm_mul {i j : Int} (h : i.natAbs < 2 ^ BIT) (h' : j.natAbs < 2 ^ BIT) : mulOk i j := by
  have := log_bit h
  have := log_bit h'
  unfold mulOk
  omega
theorem rat_den_ne {a b : Rat} : ((a.den : Int) * (b.den : Int)) ≠ 0 := Int.mul_ne_zero (by have := a.den_nz; omega) (by have := b.den_nz; omega)
theorem rat_addE (a b : Rat) : Rat.divInt (a.num * b.den + b.num * a.den) (a.den * b.den) = a + b := by
  have := Rat.divInt_add_divInt a.num b.num (d₁ := a.den) (d₂ := b.den) (by have := a.den_nz; omega) (by have := b.den_nz; omega)
  rw [← this, Rat.num_divInt_den, Rat.num_divInt_den]
theorem rat_subE (a b : Rat) : Rat.divInt (a.num * b.den - b.num * a.den) (a.den * b.den) = a - b := by
  have := Rat.divInt_sub_divInt a.num b.num (d₁ := a.den) (d₂ := b.den) (by have := a.den_nz; omega) (by have := b.den_nz; omega)
  rw [← this, Rat.num_divInt_den, Rat.num_divInt_den]
theorem rat_mulE (a b : Rat) : Rat.divInt (a.num * b.num) (a.den * b.den) = a * b := by
  have := Rat.divInt_mul_divInt a.num b.num (d₁ := a.den) (d₂ := b.den)
  rw [← this, Rat.num_divInt_den, Rat.num_divInt_den]
theorem rat_negE (a : Rat) : Rat.divInt (-a.num) a.den = -a := by
  rw [← Rat.neg_divInt, Rat.num_divInt_den]
theorem rat_eqE (a b : Rat) : (if decide (a.num = b.num) = true then decide ((a.den : Int) = b.den) else false) = (a == b) := by
  by_cases h : a = b
  · subst h; simp
  · have : (a == b) = false := by simpa using h
    rw [this]
    by_cases h1 : a.num = b.num
    · rw [if_pos (decide_eq_true h1)]
      refine decide_eq_false fun z => h (Rat.ext h1 (by omega))
    · rw [if_neg (by simpa using h1)]
end Mp

namespace Mp
open PySem PySem.Spec
open PyProof.Rows L2
open PySem.W (InstAt Looks)
/-! ### operators of one's own class on two instances -/
theorem bin_same {prog : Program} {w : World} {A : Around} {E : Value → Shared → Prop} {s : Shared} {K : PySem.W.Frag} {x b C f : Addr} {ox ob : Obj} {od od' : Option Obj} {op : Operator} {Q : Value → Shared → Prop} (X : K.In s.heap) (I : InstAt s.heap x ox C od) (J : InstAt s.heap b ob C od') (hc : PySem.W.selfFirst K C = true)
    (hs : PySem.W.findIn K (.ref C) (PySem.dunder op.info.2) = some (some (.ref f))) (hf : PySem.W.isFn K (.ref f) = true)
    (h : wpAny (model prog w) A (call (.ref f) [.ref x, .ref b]) (PySem.W.CmpBack Q) E s) : wpAny (model prog w) A (binaryOp op (.ref x) (.ref b)) Q E s := by
  obtain ⟨cd, rest, hcd, hm⟩ := PySem.W.ksp_first hc
  rcases hi : op.info with ⟨sym, nm'⟩
  rw [hi] at hs
  dsimp only at hs
  have one := PySem.W.ksp_try X I hs hf h
  have L1 : Looks (model prog w) s.heap (typeOf (.ref x)) (.ref C) := I.type
  have L2 : Looks (model prog w) s.heap (typeOf (.ref b)) (.ref C) := J.type
  have L3 : Looks (model prog w) s.heap (fillsNumberSlot (.ref C) nm') true := PySem.W.fills_K X hcd hm hs
  simp only [binaryOp, hi]
  refine wpAny_holding (wpAny_bind ?_)
  unfold binaryOp1
  refine wpAny_bind (L1.here (wpAny_bind (L2.here (wpAny_bind (L3.here ?_)))))
  simp only [beq_self_eq_true, if_true, Bool.and_false, Bool.false_eq_true, if_false, Bool.true_and]
  refine wpAny_bind (wpAny_pure ?_)
  refine wpAny_bind (wpAny_pure ?_)
  refine wpAny_bind (wpAny_mono one (fun r s' z => ?_) fun _ _ e => e)
  obtain ⟨v, rfl, hq⟩ := z
  exact wpAny_pure (wpAny_pure hq)
theorem inst_of {X : Cx} {pins : List (Addr × Obj)} {σ : L2.St} {H : Hp} {s : Shared} {a C dx : Addr} {fs : List (Str × V)} (I : Inv X pins σ H s) (h : H a = some (.ins C dx fs)) : ∃ od, InstAt s.heap a (PySem.W.instObj C dx) C (some od) := by
  obtain ⟨mA, J, _⟩ := ins_get I.hok h
  obtain ⟨od, J, _⟩ := J.look
  exact ⟨od, J⟩
/-- a method of the class: the def, what it promises -/
structure MethOk (P : Program) (w : World) (K : PySem.W.Frag) (mg : Str → Option Value) (base : Heap) (C : Addr) (m : Str) (k : Nat) (sp : Sp) : Prop where
  ex : ∃ (f : Addr) (fd : FuncData) (ps : List Str), FnOk P w K mg base CX0 k f fd ps sp ∧ PySem.W.findIn K (.ref C) m = some (some (.ref f)) ∧ PySem.W.isFn K (.ref f) = true ∧ Binds K fd ps []
/-- what a binary operator's method promises -/
def spBin (C : Addr) (f : Rat → Rat → Rat) : Sp := fun vs H Q _ => ∃ p q a b, vs = [.ref p, .ref q] ∧ RatAt C H p a ∧ RatAt C H q b ∧ Sm a ∧ Sm b ∧ ∀ r H', Ex H H' → RatAt C H' r (f a b) → Q (.ref r) H'
theorem op_own {X : Cx} {C : Addr} {op : Operator} {k : Nat} {f : Rat → Rat → Rat} (M : MethOk X.prog X.w X.K X.mg X.base C (PySem.dunder op.info.2) k (spBin C f)) (hr : Room k X.A) (hc : PySem.W.selfFirst X.K C = true) : OpR X (binaryOp op) (rRat C f) := by
  intro pins s σ H x y v u Q I rx ry h
  obtain ⟨p, q, a, b, rfl, rfl, ⟨dx, fs, ha, ha'⟩, ⟨dy, gs, hb, hb'⟩, sa, sb, hq⟩ := h
  cases rx
  cases ry
  obtain ⟨fa, fd, ps, F, hs, hf, bd⟩ := M.ex
  obtain ⟨od, J⟩ := inst_of I ha
  obtain ⟨od', J'⟩ := inst_of I hb
  refine bin_same I.kIn J J' hc hs hf ?_
  refine wpAny_mono (run_fn (us := [.ref p, .ref q]) (vs := [.ref p, .ref q]) (ds := []) (dvs := []) (E := E0) F hr bd .nil pass0 I (.cons rfl (.cons rfl .nil)) (Q := fun v H' => ∃ r, v = .ref r ∧ Q (.ref r) H') ⟨p, q, a, b, rfl, ⟨dx, fs, ha, ha'⟩, ⟨dy, gs, hb, hb'⟩, sa, sb, fun r H' e hr => ⟨r, rfl, hq r H' e hr⟩⟩) (fun u s' z => ?_) fun _ _ e => e
  obtain ⟨v, H', I', rv, r, rfl, hq'⟩ := z
  cases rv
  exact ⟨.ref r, H', I', rfl, hq'⟩
def spNeg (C : Addr) : Sp := fun vs H Q _ => ∃ p a, vs = [.ref p] ∧ RatAt C H p a ∧ Sm a ∧ ∀ r H', Ex H H' → RatAt C H' r (-a) → Q (.ref r) H'
theorem neg_own {X : Cx} {C : Addr} {k : Nat} (M : MethOk X.prog X.w X.K X.mg X.base C "__neg__" k (spNeg C)) (hr : Room k X.A) : UnR X (unaryOp .USub) fun x H Q => ∃ p a, x = .ref p ∧ RatAt C H p a ∧ Sm a ∧ ∀ r H', Ex H H' → RatAt C H' r (-a) → Q (.ref r) H' := by
  intro pins s σ H x v Q I rx h
  obtain ⟨p, a, rfl, ⟨dx, fs, ha, ha'⟩, sa, hq⟩ := h
  cases rx
  obtain ⟨fa, fd, ps, F, hs, hf, bd⟩ := M.ex
  obtain ⟨od, J⟩ := inst_of I ha
  obtain ⟨m, hF⟩ := I.fr
  refine PySem.W.ksp_neg hF I.ok.mod.kin J hs hf ?_
  refine run_fn (us := [.ref p]) (vs := [.ref p]) (ds := []) (dvs := []) (E := E0) F hr bd .nil pass0 I (.cons rfl .nil) ⟨p, a, rfl, ⟨dx, fs, ha, ha'⟩, sa, hq⟩
/-- what is no fraction -/
def Oth (K : PySem.W.Frag) (H : Hp) (y : V) : Prop := ∃ T ∈ ["NoneType", "bool", "int", "str", "list", "tuple"], TyB K H y T ∧ TyX K H y (.type T)
theorem looks_ty {M : Model} {s : Shared} {u : Value} {T : String} (h : s.TypeIs u T) : Looks M s.heap (typeOf u) (.type T) := fun A Q E s' k q => wpAny_typeOf (by
  cases u with
  | ref a => obtain ⟨o, ho, hc⟩ := h; exact ⟨o, k _ _ ho, hc⟩
  | _ => exact h) q
theorem mro_no {K : PySem.W.Frag} {T : String} {l : List Value} {C : Addr} (h : PySem.fastBuiltinMro T = some l) (hl : l.all (fun v => match v with | .type _ => true | _ => false) = true) : PySem.W.notFirst K C (.type T) = true := by
  have e : l.contains (Value.ref C) = false := by
    rw [List.contains_eq_any_beq, List.any_eq_false]
    intro v hv
    have := List.all_eq_true.mp hl v hv
    cases v <;> first | (cases this; done) | (intro z; cases eq_of_beq z)
  show (Value.type T == Value.ref C || (Option.map (fun x => x.contains (Value.ref C)) (PySem.fastBuiltinMro T) == some false)) = true
  rw [h]
  show (_ || (some (l.contains (Value.ref C)) == some false)) = true
  rw [e]
  simp
theorem not_first {K : PySem.W.Frag} {C : Addr} : ∀ T ∈ ["NoneType", "bool", "int", "str", "list", "tuple"], PySem.W.notFirst K C (.type T) = true := by
  intro T hT
  have key : ∀ T ∈ ["NoneType", "bool", "int", "str", "list", "tuple"], ((PySem.fastBuiltinMro T).map fun l => l.all (fun v => match v with | .type _ => true | _ => false)) = some true := by decide +kernel
  obtain ⟨l, h1, h2⟩ := Option.map_eq_some_iff.mp (key T hT)
  exact mro_no h1 h2
/-- == or != of two fractions, or of a fraction and something else -/
def rRel (K : PySem.W.Frag) (C : Addr) (neg : Bool) : R2 := fun x y H Q => (∃ p q a b, x = .ref p ∧ y = .ref q ∧ RatAt C H p a ∧ RatAt C H q b ∧ Q (.bl (if neg then !(a == b) else (a == b))) H) ∨ ∃ p a, x = .ref p ∧ RatAt C H p a ∧ Oth K H y ∧ Q (.bl neg) H
def spRel (K : PySem.W.Frag) (C : Addr) (neg : Bool) : Sp := fun vs H Q _ => (∃ p q a b, vs = [.ref p, .ref q] ∧ RatAt C H p a ∧ RatAt C H q b ∧ Q (.bl (if neg then !(a == b) else (a == b))) H) ∨ ∃ p y a, vs = [.ref p, y] ∧ RatAt C H p a ∧ Oth K H y ∧ Q (.bl neg) H
theorem cmp_own {X : Cx} {C : Addr} {op : CmpOp} {k : Nat} {neg : Bool} (hop : ∀ v u, compareOp op v u = richCompare op v u) (M : MethOk X.prog X.w X.K X.mg X.base C (PySem.cmpInfo op).2.1 k (spRel X.K C neg)) (hr : Room k X.A) : OpR X (compareOp op) (rRel X.K C neg) := by
  intro pins s σ H x y v u Q I rx ry h
  obtain ⟨fa, fd, ps, F, hs, hf, bd⟩ := M.ex
  obtain ⟨m, hF⟩ := I.fr
  rw [hop]
  rcases h with ⟨p, q, a, b, rfl, rfl, ⟨dx, fs, ha, ha'⟩, ⟨dy, gs, hb, hb'⟩, hq⟩ | ⟨p, a, rfl, ⟨dx, fs, ha, ha'⟩, ot, hq⟩
  · cases rx
    cases ry
    obtain ⟨od, J⟩ := inst_of I ha
    obtain ⟨od', J'⟩ := inst_of I hb
    refine PySem.W.cmp_K (op := op) (tb := .ref C) hr.units0 hF I.ok.mod.kin J J'.type (by simp [PySem.W.notFirst]) hs hf ?_
    refine wpAny_mono (run_fn (us := [.ref p, .ref q]) (vs := [.ref p, .ref q]) (ds := []) (dvs := []) (E := E0) F hr bd .nil pass0 I (.cons rfl (.cons rfl .nil)) (Q := fun v H' => ∃ r, v = .bl r ∧ Q (.bl r) H') (.inl ⟨p, q, a, b, rfl, ⟨dx, fs, ha, ha'⟩, ⟨dy, gs, hb, hb'⟩, ⟨_, rfl, hq⟩⟩)) (fun u s' z => ?_) fun _ _ e => e
    obtain ⟨v, H', I', rv, r, rfl, hq'⟩ := z
    cases rv
    exact ⟨.bl r, H', I', rfl, hq'⟩
  · cases rx
    obtain ⟨od, J⟩ := inst_of I ha
    obtain ⟨T, hT, tb, tx⟩ := id ot
    refine PySem.W.cmp_K (op := op) (tb := .type T) hr.units0 hF I.ok.mod.kin J (looks_ty (tb.is I ry)) (not_first T hT) hs hf ?_
    refine wpAny_mono (run_fn (us := [.ref p, u]) (vs := [.ref p, y]) (ds := []) (dvs := []) (E := E0) F hr bd .nil pass0 I (.cons rfl (.cons ry .nil)) (Q := fun v H' => ∃ r, v = .bl r ∧ Q (.bl r) H') (.inr ⟨p, y, a, rfl, ⟨dx, fs, ha, ha'⟩, ot, ⟨_, rfl, hq⟩⟩)) (fun u s' z => ?_) fun _ _ e => e
    obtain ⟨v, H', I', rv, r, rfl, hq'⟩ := z
    cases rv
    exact ⟨.bl r, H', I', rfl, hq'⟩
end Mp

/-! == and != of lists and tuples, by what each pair says -/
namespace GB
open PySem PySem.SeqAt
open AutoSeq1 (wpAny_loadPart')
open MeetsSeq MeetsSeq2 MeetsSeq3 SeqRoads2
section
variable {prog : Program} {w : World} {A : Around} {R : Result → Shared → Prop} {E : Value → Shared → Prop} {s : Shared}
def HL (s : Shared) (l : Addr) (N : Nat) : Prop := ∃ (xs : Array Value) (n : Nat), s.heap.get? l = some { cls := .type "list", data := .seq xs n } ∧ xs.size = N
structure ListJ (prog : Program) (w : World) (A : Around) (E : Value → Shared → Prop) (l b : Addr) (N : Nat) (I : Nat → Shared → Prop) (S : Shared → Prop) : Prop where
  turn : ∀ i s, I i s → ∃ (xs ys : Array Value) (n m : Nat), s.heap.get? l = some { cls := .type "list", data := .seq xs n } ∧ s.heap.get? b = some { cls := .type "list", data := .seq ys m } ∧ xs.size = N ∧ ys.size = N ∧
    ∀ (h1 : i < xs.size) (h2 : i < ys.size), wpAny (model prog w) A.in1 (eqBool xs[i] ys[i]) (fun r s' => (r = true ∧ I (i + 1) s') ∨ (r = false ∧ S s')) E s
  stop : ∀ s, S s → HL s l N ∧ HL s b N
theorem loopEq (l b : Addr) (N : Nat) (I : Nat → Shared → Prop) (S : Shared → Prop) (J : ListJ prog w A (fun e s' => R (.error e) s') l b N I S)
    (fin : ∀ s, I N s → R (.ok (.ret (.bool true))) s) (bad : ∀ s, S s → R (.ok (.ret (.bool false))) s) (k : Nat) :
    ∀ i : Nat, N - i = k → i ≤ N → ∀ s, I i s →
      wpAny (model prog w) A.in1 (Builtin.«list.__eq__.loop» ⟨[.ref l, .ref b, rawInt i, rawInt 2], []⟩) (GQ.FinOf prog w A R) (fun e s' => R (.error e) s') s := by
  induction k with
  | zero =>
    intro i hk hi s h
    obtain ⟨xs, ys, n, m, gl, gb, nx, ny, _⟩ := J.turn _ _ h
    have ei : i = N := by omega
    have hR : R (.ok (.ret (.bool true))) s := fin s (ei ▸ h)
    obtain ⟨hp, g, d, tk, os⟩ := s
    wp_walk using wpAny_loadPart' gl, wpAny_loadPart' gb
    have a1 : xs[((i : Nat) : Int).toNat]? = none := by simp; omega
    have a2 : ys[((i : Nat) : Int).toNat]? = none := by simp; omega
    rw [a1, a2]
    wp_walk using wpAny_loadPart' gl, wpAny_loadPart' gb
    show R (.ok (.ret (.bool (xs.size == ys.size)))) _
    rw [nx, ny]
    simpa using hR
  | succ k ih =>
    intro i hk hi s h
    obtain ⟨xs, ys, n, m, gl, gb, nx, ny, turn⟩ := J.turn _ _ h
    have lx : i < xs.size := by omega
    have ly : i < ys.size := by omega
    have ht := turn lx ly
    obtain ⟨hp, g, d, tk, os⟩ := s
    wp_walk using wpAny_loadPart' gl, wpAny_loadPart' gb
    have a1 : xs[((i : Nat) : Int).toNat]? = some xs[i] := by simp [lx]
    have a2 : ys[((i : Nat) : Int).toNat]? = some ys[i] := by simp [ly]
    have hc : ((i : Int) + 1) = ((i + 1 : Nat) : Int) := by omega
    rw [a1, a2]
    refine wpAny_bind (wpAny_mono ht (fun r s2 q => ?_) fun _ _ x => x)
    rcases q with ⟨rfl, q⟩ | ⟨rfl, q⟩
    · have more := ih (i + 1) (by omega) (by omega) s2 q
      obtain ⟨hp2, g2, d2, tk2, os2⟩ := s2
      wp_walk
      rw [hc]
      refine ⟨plainId_quiet plain_eq_loop _, codeAny_builtin entry_eq_loop ?_⟩
      rw [Around.under_plainId plain_eq_loop _]
      exact more
    · have hR := bad s2 q
      obtain ⟨⟨xs2, n2, gl2, nx2⟩, ys2, m2, gb2, ny2⟩ := J.stop _ q
      obtain ⟨hp2, g2, d2, tk2, os2⟩ := s2
      wp_walk using wpAny_loadPart' gl2, wpAny_loadPart' gb2
      have b1 : xs2[((i : Nat) : Int).toNat]? = some (xs2[i]'(by omega)) := by simp
      have b2 : ys2[((i : Nat) : Int).toNat]? = some (ys2[i]'(by omega)) := by simp
      rw [b1, b2]
      wp_walk
      exact hR
theorem loopNe (l b : Addr) (N : Nat) (I : Nat → Shared → Prop) (S : Shared → Prop) (J : ListJ prog w A (fun e s' => R (.error e) s') l b N I S)
    (fin : ∀ s, I N s → R (.ok (.ret (.bool false))) s) (bad : ∀ s, S s → R (.ok (.ret (.bool true))) s) (k : Nat) :
    ∀ i : Nat, N - i = k → i ≤ N → ∀ s, I i s →
      wpAny (model prog w) A.in1 (Builtin.«list.__eq__.loop» ⟨[.ref l, .ref b, rawInt i, rawInt 3], []⟩) (GQ.FinOf prog w A R) (fun e s' => R (.error e) s') s := by
  induction k with
  | zero =>
    intro i hk hi s h
    obtain ⟨xs, ys, n, m, gl, gb, nx, ny, _⟩ := J.turn _ _ h
    have ei : i = N := by omega
    have hR : R (.ok (.ret (.bool false))) s := fin s (ei ▸ h)
    obtain ⟨hp, g, d, tk, os⟩ := s
    wp_walk using wpAny_loadPart' gl, wpAny_loadPart' gb
    have a1 : xs[((i : Nat) : Int).toNat]? = none := by simp; omega
    have a2 : ys[((i : Nat) : Int).toNat]? = none := by simp; omega
    rw [a1, a2]
    wp_walk using wpAny_loadPart' gl, wpAny_loadPart' gb
    show R (.ok (.ret (.bool (xs.size != ys.size)))) _
    rw [nx, ny]
    simpa using hR
  | succ k ih =>
    intro i hk hi s h
    obtain ⟨xs, ys, n, m, gl, gb, nx, ny, turn⟩ := J.turn _ _ h
    have lx : i < xs.size := by omega
    have ly : i < ys.size := by omega
    have ht := turn lx ly
    obtain ⟨hp, g, d, tk, os⟩ := s
    wp_walk using wpAny_loadPart' gl, wpAny_loadPart' gb
    have a1 : xs[((i : Nat) : Int).toNat]? = some xs[i] := by simp [lx]
    have a2 : ys[((i : Nat) : Int).toNat]? = some ys[i] := by simp [ly]
    have hc : ((i : Int) + 1) = ((i + 1 : Nat) : Int) := by omega
    rw [a1, a2]
    refine wpAny_bind (wpAny_mono ht (fun r s2 q => ?_) fun _ _ x => x)
    rcases q with ⟨rfl, q⟩ | ⟨rfl, q⟩
    · have more := ih (i + 1) (by omega) (by omega) s2 q
      obtain ⟨hp2, g2, d2, tk2, os2⟩ := s2
      wp_walk
      rw [hc]
      refine ⟨plainId_quiet plain_eq_loop _, codeAny_builtin entry_eq_loop ?_⟩
      rw [Around.under_plainId plain_eq_loop _]
      exact more
    · have hR := bad s2 q
      obtain ⟨⟨xs2, n2, gl2, nx2⟩, ys2, m2, gb2, ny2⟩ := J.stop _ q
      obtain ⟨hp2, g2, d2, tk2, os2⟩ := s2
      wp_walk using wpAny_loadPart' gl2, wpAny_loadPart' gb2
      have b1 : xs2[((i : Nat) : Int).toNat]? = some (xs2[i]'(by omega)) := by simp
      have b2 : ys2[((i : Nat) : Int).toNat]? = some (ys2[i]'(by omega)) := by simp
      rw [b1, b2]
      wp_walk
      exact hR
theorem bodyEq (l b : Addr) (N : Nat) (I : Nat → Shared → Prop) (S : Shared → Prop) (J : ListJ prog w A (fun e s' => R (.error e) s') l b N I S)
    (fin : ∀ s, I N s → R (.ok (.ret (.bool true))) s) (bad : ∀ s, S s → R (.ok (.ret (.bool false))) s) {s : Shared} (h : I 0 s) :
    wpAny (model prog w) A.in1 (Builtin.«list.__eq__» ⟨[.ref l, .ref b], []⟩) (GQ.FinOf prog w A R) (fun e s' => R (.error e) s') s := by
  obtain ⟨xs, ys, n, m, gl, gb, nx, ny, _⟩ := J.turn _ _ h
  have more := loopEq (A := A) (R := R) l b N I S J fin bad _ 0 rfl (Nat.zero_le _) s h
  obtain ⟨hp, g, d, tk, os⟩ := s
  have sub := AutoSeq1.sub_list_list
  have same : ¬ (xs.size != ys.size) = true := by simp [nx, ny]
  wp_walk using wpAny_loadPart' gl, wpAny_loadPart' gb
  refine ⟨plainId_quiet plain_eq_loop _, codeAny_builtin entry_eq_loop ?_⟩
  rw [Around.under_plainId plain_eq_loop _]
  exact more
theorem bodyNe (l b : Addr) (N : Nat) (I : Nat → Shared → Prop) (S : Shared → Prop) (J : ListJ prog w A (fun e s' => R (.error e) s') l b N I S)
    (fin : ∀ s, I N s → R (.ok (.ret (.bool false))) s) (bad : ∀ s, S s → R (.ok (.ret (.bool true))) s) {s : Shared} (h : I 0 s) :
    wpAny (model prog w) A.in1 (Builtin.«list.__ne__» ⟨[.ref l, .ref b], []⟩) (GQ.FinOf prog w A R) (fun e s' => R (.error e) s') s := by
  obtain ⟨xs, ys, n, m, gl, gb, nx, ny, _⟩ := J.turn _ _ h
  have more := loopNe (A := A) (R := R) l b N I S J fin bad _ 0 rfl (Nat.zero_le _) s h
  obtain ⟨hp, g, d, tk, os⟩ := s
  have sub := AutoSeq1.sub_list_list
  have same : ¬ (xs.size != ys.size) = true := by simp [nx, ny]
  wp_walk using wpAny_loadPart' gl, wpAny_loadPart' gb
  refine ⟨plainId_quiet plain_eq_loop _, codeAny_builtin entry_eq_loop ?_⟩
  rw [Around.under_plainId plain_eq_loop _]
  exact more
/-- lists of one length -/
theorem listEq {l b : Addr} {N : Nat} {Q : Value → Shared → Prop} (hu : A.units < cLine) (I : Nat → Shared → Prop) (S : Shared → Prop) (J : ListJ prog w A E l b N I S)
    (fin : ∀ s, I N s → Q (.bool true) s) (bad : ∀ s, S s → Q (.bool false) s) (h : I 0 s) : wpAny (model prog w) A (richCompare .Eq (.ref l) (.ref b)) Q E s := by
  obtain ⟨xs, ys, n, m, gl, gb, _, _, _⟩ := J.turn _ _ h
  refine wpAny_richCompare_same_room (op := .Eq) ⟨_, gl, rfl⟩ ⟨_, gb, rfl⟩ F.slot_list_eq (GQ.call_here F.slot_list_eq ⟨_, gl, rfl⟩ F.entry_list_eq (F.args_list_eq_2 _ _) ?_) hu
  exact bodyEq (R := wants (fun v s' => v ≠ .notImplemented ∧ Q v s') E) l b N I S J (fun s' q => ⟨(fun x => nomatch x), fin s' q⟩) (fun s' q => ⟨(fun x => nomatch x), bad s' q⟩) h
theorem listNe {l b : Addr} {N : Nat} {Q : Value → Shared → Prop} (hu : A.units < cLine) (I : Nat → Shared → Prop) (S : Shared → Prop) (J : ListJ prog w A E l b N I S)
    (fin : ∀ s, I N s → Q (.bool false) s) (bad : ∀ s, S s → Q (.bool true) s) (h : I 0 s) : wpAny (model prog w) A (richCompare .NotEq (.ref l) (.ref b)) Q E s := by
  obtain ⟨xs, ys, n, m, gl, gb, _, _, _⟩ := J.turn _ _ h
  refine wpAny_richCompare_same_room (op := .NotEq) ⟨_, gl, rfl⟩ ⟨_, gb, rfl⟩ F.slot_list_ne (GQ.call_here F.slot_list_ne ⟨_, gl, rfl⟩ F.entry_list_ne (F.args_list_ne_2 _ _) ?_) hu
  exact bodyNe (R := wants (fun v s' => v ≠ .notImplemented ∧ Q v s') E) l b N I S J (fun s' q => ⟨(fun x => nomatch x), fin s' q⟩) (fun s' q => ⟨(fun x => nomatch x), bad s' q⟩) h
/-- lists of two lengths -/
theorem listEqL {l b : Addr} {xs ys : Array Value} {n m : Nat} {Q : Value → Shared → Prop} (gl : s.heap.get? l = some { cls := .type "list", data := .seq xs n }) (gb : s.heap.get? b = some { cls := .type "list", data := .seq ys m }) (hne : (xs.size != ys.size) = true) (hu : A.units < cLine) (h : Q (.bool false) s) :
    wpAny (model prog w) A (richCompare .Eq (.ref l) (.ref b)) Q E s :=
  richCompare_meets_room (op := .Eq) ⟨_, gl, rfl⟩ ⟨_, gb, rfl⟩ F.slot_list_eq F.entry_list_eq (F.args_list_eq_2 _ _) (AutoSeq1.list___eq___list_list_0 l xs n b ys m hne)
    ⟨gl, gb, show Value.bool false ≠ Value.notImplemented ∧ Q (.bool false) s from ⟨(fun x => nomatch x), h⟩⟩ hu
theorem listNeL {l b : Addr} {xs ys : Array Value} {n m : Nat} {Q : Value → Shared → Prop} (gl : s.heap.get? l = some { cls := .type "list", data := .seq xs n }) (gb : s.heap.get? b = some { cls := .type "list", data := .seq ys m }) (hne : (xs.size != ys.size) = true) (hu : A.units < cLine) (h : Q (.bool true) s) :
    wpAny (model prog w) A (richCompare .NotEq (.ref l) (.ref b)) Q E s :=
  richCompare_meets_room (op := .NotEq) ⟨_, gl, rfl⟩ ⟨_, gb, rfl⟩ F.slot_list_ne F.entry_list_ne (F.args_list_ne_2 _ _) (list_ne_lengthsAt l b xs ys n m none none #[] #[] hne)
    ⟨gl, gb, show Value.bool true ≠ Value.notImplemented ∧ Q (.bool true) s from ⟨(fun x => nomatch x), h⟩⟩ hu
/-- tuples -/
theorem tupBody (l b : Addr) (xs ys : Array Value) (n n2 : Nat) (dd dd2 : Option Addr) (sl sl2 : Array (Option Value)) (I : Nat → Shared → Prop) (S : Shared → Prop)
    (turn : ∀ i (h1 : i < xs.size) (h2 : i < ys.size) s, I i s → wpAny (model prog w) A.in1 (eqBool xs[i] ys[i]) (fun r s' => (r = true ∧ I (i + 1) s') ∨ (r = false ∧ S s')) (fun e s' => R (.error e) s') s)
    (fin : ∀ s, I (min xs.size ys.size) s → R (.ok (.ret (.bool (xs.size == ys.size)))) s) (bad : ∀ s, S s → R (.ok (.ret (.bool false))) s) {s : Shared} (gl : s.heap.get? l = some { cls := .type "tuple", dict := dd, data := .seq xs n, slots := sl }) (gb : s.heap.get? b = some { cls := .type "tuple", dict := dd2, data := .seq ys n2, slots := sl2 }) (h : I 0 s) :
    wpAny (model prog w) A.in1 (Builtin.«tuple.__eq__» ⟨[.ref l, .ref b], []⟩) (GQ.FinOf prog w A R) (fun e s' => R (.error e) s') s := by
  have sub := AutoSeq1.sub_tuple_tuple
  have hZ : (xs.toList.zip ys.toList).length = min xs.size ys.size := by simp
  have h0 := h
  obtain ⟨hp, g, d, tk, os⟩ := s
  wp_walk using wpAny_loadPart' gl, wpAny_loadPart' gb, wpAny_forIn_list _ (fun rest b s' => b.1 = none ∧ ∃ i, rest = (xs.toList.zip ys.toList).drop i ∧ i ≤ min xs.size ys.size ∧ I i s') _
  case turn =>
    rintro ⟨y, x⟩ rest b s' ⟨hb', i, hz, hi, hI⟩
    have hlt : i < (xs.toList.zip ys.toList).length := by
      rcases Nat.lt_or_ge i (xs.toList.zip ys.toList).length with h' | h'
      · exact h'
      · rw [List.drop_of_length_le h'] at hz; cases hz
    have hm : i < min xs.size ys.size := hZ ▸ hlt
    have h1 : i < xs.size := Nat.lt_of_lt_of_le hm (Nat.min_le_left _ _)
    have h2 : i < ys.size := Nat.lt_of_lt_of_le hm (Nat.min_le_right _ _)
    rw [List.drop_eq_getElem_cons hlt] at hz
    injection hz with hyx hrest
    have hy : y = xs[i] := by have := congrArg Prod.fst hyx; simpa using this
    have hx : x = ys[i] := by have := congrArg Prod.snd hyx; simpa using this
    subst hy hx
    refine wpAny_bind (wpAny_mono (turn i h1 h2 s' hI) (fun r s2 q2 => ?_) fun _ _ x => x)
    rcases q2 with ⟨rfl, q2⟩ | ⟨rfl, q2⟩
    · wp_walk
      exact ⟨rfl, i + 1, hrest, hm, q2⟩
    · have hR := bad s2 q2
      wp_walk
      exact hR
  case fin =>
    rintro ⟨b1, b2⟩ s' ⟨hb', i, hz, hi, hI⟩
    simp only at hb'
    subst hb'
    have hge : min xs.size ys.size ≤ i := by
      rcases Nat.lt_or_ge i (xs.toList.zip ys.toList).length with h' | h'
      · rw [List.drop_eq_getElem_cons h'] at hz; cases hz
      · exact hZ ▸ h'
    have ei : i = min xs.size ys.size := by omega
    have hR := fin s' (ei ▸ hI)
    wp_walk
    simpa [Builtin.Tuple.tupleCompareSizes] using hR
  case h =>
    exact ⟨rfl, 0, rfl, Nat.zero_le _, h0⟩
theorem tupEq {l b : Addr} {xs ys : Array Value} {Q : Value → Shared → Prop} (hu : A.units < cLine) (I : Nat → Shared → Prop) (S : Shared → Prop) (hl : s.heap.IsTuple l xs) (hb : s.heap.IsTuple b ys)
    (turn : ∀ i (h1 : i < xs.size) (h2 : i < ys.size) s, I i s → wpAny (model prog w) A.in1 (eqBool xs[i] ys[i]) (fun r s' => (r = true ∧ I (i + 1) s') ∨ (r = false ∧ S s')) E s)
    (fin : ∀ s, I (min xs.size ys.size) s → Q (.bool (xs.size == ys.size)) s) (bad : ∀ s, S s → Q (.bool false) s) (h : I 0 s) : wpAny (model prog w) A (richCompare .Eq (.ref l) (.ref b)) Q E s := by
  obtain ⟨⟨c, dd, data, sl⟩, ho, hc, n, hd⟩ := id hl
  obtain ⟨⟨c2, dd2, data2, sl2⟩, ho2, hc2, n2, hd2⟩ := id hb
  simp only at hc hd hc2 hd2
  subst hc hd hc2 hd2
  refine wpAny_richCompare_same_room (op := .Eq) ⟨_, ho, rfl⟩ ⟨_, ho2, rfl⟩ F.slot_tuple_eq (GQ.call_here F.slot_tuple_eq ⟨_, ho, rfl⟩ F.entry_tuple_eq (F.args_tuple_eq_2 _ _) ?_) hu
  exact tupBody (R := wants (fun v s' => v ≠ .notImplemented ∧ Q v s') E) l b xs ys n n2 dd dd2 sl sl2 I S turn (fun s' q => ⟨(fun x => nomatch x), fin s' q⟩) (fun s' q => ⟨(fun x => nomatch x), bad s' q⟩) ho ho2 h
end
end GB

namespace Mp
open PySem PySem.Spec
open PyProof.Rows L2
mutual
def D.toP : D → PyData
  | .bl b => .bool b
  | .int i => .int i
  | .str s => .str s
  | .tup ds => .tuple (D.toPs ds)
  | .lst _ ds => .list (D.toPs ds)
  | .non => .none
  | .rat _ => .none
  | .strm => .none
  | .scr _ => .none
def D.toPs : List D → List PyData
  | [] => []
  | d :: ds => D.toP d :: D.toPs ds
end
section
variable {K : PySem.W.Frag} {C : Addr} {p0 : Option Addr} {H : Hp} {G : GS}
mutual
theorem plain_dp : ∀ {d : D} {n : Nat} {v : V} {fp : List Addr}, d.plain n = true → Rep K C p0 H G d v fp → Dp K H v d.toP
  | .non, _, _, _, _, r => by rw [non_of r, D.toP]; exact .non
  | .bl b, _, _, _, _, r => by rw [bl_of r, D.toP]; exact .bl _
  | .int b, _, _, _, _, r => by rw [int_of r, D.toP]; exact .int _
  | .str b, _, _, _, _, r => by rw [str_of r, D.toP]; exact .str _
  | .tup ds, n, _, _, h, r => by
    obtain ⟨p, vs, rfl, hp, rs⟩ := tup_of r
    rw [D.toP]
    cases n with
    | zero => unfold D.plain at h; cases h
    | succ n => exact .tup (.inl (.inl hp)) (plain_dps (n := n) (by unfold D.plain at h; exact h) rs)
  | .lst o ds, n, _, _, h, r => by
    obtain ⟨p, vs, f, rfl, hp, _, rs, _⟩ := lst_of r
    rw [D.toP]
    cases n with
    | zero => unfold D.plain at h; cases h
    | succ n => exact .lst (.inl (.inl hp)) (plain_dps (n := n) (by unfold D.plain at h; exact h) rs)
  | .rat _, _, _, _, h, _ => by unfold D.plain at h; cases h
  | .strm, _, _, _, h, _ => by unfold D.plain at h; cases h
  | .scr _, _, _, _, h, _ => by unfold D.plain at h; cases h
theorem plain_dps : ∀ {ds : List D} {n : Nat} {vs : List V} {fp : List Addr}, D.plains ds n = true → Reps K C p0 H G ds vs fp → DpAll K H vs (D.toPs ds)
  | [], _, _, _, _, r => by
    rw [(Reps.nil_iff.mp r).1, D.toPs]
    exact .nil
  | d :: ds, n, _, _, h, r => by
    obtain ⟨v, r', f, g, rfl, rfl, a, b⟩ := Reps.cons_iff.mp r
    unfold D.plains at h
    rw [Bool.and_eq_true] at h
    rw [D.toPs]
    exact .cons (plain_dp h.1 a) (plain_dps h.2 b)
end
end
mutual
theorem plain_lay : ∀ {d : D} {n : Nat}, d.plain n = true → d.toP.canLay0 = true ∧ d.toP.depth ≤ n
  | .non, _, _ => by rw [D.toP]; exact ⟨rfl, Nat.zero_le _⟩
  | .bl b, _, _ => by rw [D.toP]; exact ⟨rfl, Nat.zero_le _⟩
  | .int b, _, _ => by rw [D.toP]; exact ⟨rfl, Nat.zero_le _⟩
  | .str b, _, h => by
    rw [D.toP]
    refine ⟨?_, Nat.zero_le _⟩
    unfold D.plain at h
    unfold PyData.canLay0 PyData.strOk
    exact h
  | .tup ds, n, h => by
    rw [D.toP]
    cases n with
    | zero => unfold D.plain at h; cases h
    | succ n =>
      obtain ⟨a, b⟩ := plains_lay (ds := ds) (n := n) (by unfold D.plain at h; exact h)
      refine ⟨by unfold PyData.canLay0; exact a, ?_⟩
      unfold PyData.depth
      omega
  | .lst o ds, n, h => by
    rw [D.toP]
    cases n with
    | zero => unfold D.plain at h; cases h
    | succ n =>
      obtain ⟨a, b⟩ := plains_lay (ds := ds) (n := n) (by unfold D.plain at h; exact h)
      refine ⟨by unfold PyData.canLay0; exact a, ?_⟩
      unfold PyData.depth
      omega
  | .rat _, _, h => by unfold D.plain at h; cases h
  | .strm, _, h => by unfold D.plain at h; cases h
  | .scr _, _, h => by unfold D.plain at h; cases h
theorem plains_lay : ∀ {ds : List D} {n : Nat}, D.plains ds n = true → PyData.canLayAll0 (D.toPs ds) = true ∧ PyData.depthAll (D.toPs ds) ≤ n
  | [], n, _ => by rw [D.toPs]; exact ⟨rfl, Nat.zero_le _⟩
  | d :: ds, n, h => by
    unfold D.plains at h
    rw [Bool.and_eq_true] at h
    obtain ⟨a, b⟩ := plain_lay h.1
    obtain ⟨c, e⟩ := plains_lay h.2
    rw [D.toPs]
    refine ⟨by unfold PyData.canLayAll0; rw [a, c]; rfl, ?_⟩
    unfold PyData.depthAll
    omega
end
theorem eqvAll_len : ∀ {as bs : List PyData}, as.length ≠ bs.length → PyData.eqvAll as bs = false
  | [], [], h => absurd rfl h
  | [], _ :: _, _ => by rw [PyData.eqvAll]
  | _ :: _, [], _ => by rw [PyData.eqvAll]
  | a :: as, b :: bs, h => by
    rw [PyData.eqvAll, eqvAll_len (fun z => h (congrArg Nat.succ z))]
    simp
theorem toPs_len : ∀ (ds : List D), (D.toPs ds).length = ds.length
  | [] => by rw [D.toPs] <;> rfl
  | d :: ds => by rw [D.toPs, List.length_cons, List.length_cons, toPs_len ds]
mutual
theorem eqv_toP : ∀ (a b : D) {n m : Nat} {r : Bool}, a.plain n = true → b.plain m = true → D.eqv a b = some r → PyData.eqv a.toP b.toP = r
  | .tup as, b, n, m, r, ha, hb, h => by
    cases b with
    | tup bs =>
      cases n with
      | zero => unfold D.plain at ha; cases ha
      | succ n =>
        cases m with
        | zero => unfold D.plain at hb; cases hb
        | succ m =>
          rw [D.toP, D.toP, PyData.eqv]
          exact eqvs_toP as bs (n := n) (m := m) (by unfold D.plain at ha; exact ha) (by unfold D.plain at hb; exact hb) (by unfold D.eqv at h; exact h)
    | _ => first | (simp [D.plain] at hb; done) | (simp [D.eqv] at h; subst h; simp [D.toP, PyData.eqv])
  | .lst o as, b, n, m, r, ha, hb, h => by
    cases b with
    | lst o' bs =>
      cases n with
      | zero => unfold D.plain at ha; cases ha
      | succ n =>
        cases m with
        | zero => unfold D.plain at hb; cases hb
        | succ m =>
          rw [D.toP, D.toP, PyData.eqv]
          unfold D.eqv at h
          by_cases hl : as.length = bs.length
          · rw [if_pos hl] at h
            exact eqvs_toP as bs (n := n) (m := m) (by unfold D.plain at ha; exact ha) (by unfold D.plain at hb; exact hb) h
          · rw [if_neg hl] at h
            cases h
            exact eqvAll_len (by rw [toPs_len, toPs_len]; exact hl)
    | _ => first | (simp [D.plain] at hb; done) | (simp [D.eqv] at h; subst h; simp [D.toP, PyData.eqv])
  | .non, b, n, m, r, ha, hb, h => by
    cases b <;> first | (simp [D.plain] at hb; done) | (simp [D.eqv] at h; subst h; simp [D.toP, PyData.eqv])
  | .bl _, b, n, m, r, ha, hb, h => by
    cases b <;> first | (simp [D.plain] at hb; done) | (simp [D.eqv] at h; done) | (simp [D.eqv] at h; subst h; simp [D.toP, PyData.eqv])
  | .int _, b, n, m, r, ha, hb, h => by
    cases b <;> first | (simp [D.plain] at hb; done) | (simp [D.eqv] at h; done) | (simp [D.eqv] at h; subst h; simp [D.toP, PyData.eqv])
  | .str _, b, n, m, r, ha, hb, h => by
    cases b <;> first | (simp [D.plain] at hb; done) | (simp [D.eqv] at h; subst h; simp [D.toP, PyData.eqv])
  | .rat _, b, n, m, r, ha, hb, h => by unfold D.plain at ha; cases ha
  | .strm, b, n, m, r, ha, hb, h => by unfold D.plain at ha; cases ha
  | .scr _, b, n, m, r, ha, hb, h => by unfold D.plain at ha; cases ha
theorem eqvs_toP : ∀ (as bs : List D) {n m : Nat} {r : Bool}, D.plains as n = true → D.plains bs m = true → D.eqvs as bs = some r → PyData.eqvAll (D.toPs as) (D.toPs bs) = r
  | [], [], n, m, r, _, _, h => by
    unfold D.eqvs at h
    cases h
    rw [D.toPs, PyData.eqvAll]
  | [], _ :: _, n, m, r, _, _, h => by
    unfold D.eqvs at h
    cases h
    rw [D.toPs, D.toPs, PyData.eqvAll]
  | _ :: _, [], n, m, r, _, _, h => by
    unfold D.eqvs at h
    cases h
    rw [D.toPs, D.toPs, PyData.eqvAll]
  | a :: as, b :: bs, n, m, r, ha, hb, h => by
    unfold D.plains at ha hb
    rw [Bool.and_eq_true] at ha hb
    unfold D.eqvs at h
    rw [D.toPs, D.toPs, PyData.eqvAll]
    cases e : D.eqv a b with
    | none => rw [e] at h; cases h
    | some c =>
      rw [e] at h
      rw [eqv_toP a b ha.1 hb.1 e]
      cases c with
      | true => rw [Bool.true_and]; exact eqvs_toP as bs ha.2 hb.2 h
      | false => cases h; rfl
end
theorem anyEq_toP {x : D} {n : Nat} (hx : x.plain n = true) : ∀ (ds : List D) {m : Nat} {r : Bool}, D.plains ds m = true → anyEq x ds = some r → (D.toPs ds).any (fun z => PyData.eqv z x.toP) = r
  | [], m, r, _, h => by
    unfold anyEq at h
    cases h
    rw [D.toPs]
    rfl
  | d :: ds, m, r, hd, h => by
    unfold D.plains at hd
    rw [Bool.and_eq_true] at hd
    unfold anyEq at h
    rw [D.toPs, List.any_cons]
    cases e : D.eqv d x with
    | none => rw [e] at h; cases h
    | some c =>
      rw [e] at h
      rw [eqv_toP d x hd.1 hx e]
      cases c with
      | true => cases h; rfl
      | false => rw [Bool.false_or]; exact anyEq_toP hx ds hd.2 h
theorem plain_shaped {d : D} (h : d.plain 40 = true) : SeqAt.shaped d.toP = true := by
  obtain ⟨a, b⟩ := plain_lay h
  unfold SeqAt.shaped
  rw [a, Bool.true_and]
  exact decide_eq_true (by omega)
theorem can_cases {a b : D} {r : Bool} (hc : canCmp a b = true) (h : D.eqv a b = some r) : (∃ p q, a = .rat p ∧ b = .rat q ∧ r = (p == q)) ∨ (a.plain 40 = true ∧ b.plain 40 = true ∧ PyData.eqv a.toP b.toP = r) := by
  unfold canCmp at hc
  rcases Bool.or_eq_true_iff.mp hc with z | z
  · rw [Bool.and_eq_true] at z
    obtain ⟨z1, z2⟩ := z
    cases a <;> first | (cases z1; done) | skip
    cases b <;> first | (cases z2; done) | skip
    unfold D.eqv at h
    cases h
    exact .inl ⟨_, _, rfl, rfl, rfl⟩
  · rw [Bool.and_eq_true] at z
    exact .inr ⟨z.1, z.2, eqv_toP a b z.1 z.2 h⟩
section
variable {X : Cx} {C : Addr}
theorem oth_cases {p0 : Option Addr} {G : GS} {H : Hp} {a b : D} {r : Bool} {x y : V} {fa fb : List Addr} (ho : othD a b = true) (h : D.eqv a b = some r) (ra : Rep X.K C p0 H G a x fa) (rb : Rep X.K C p0 H G b y fb) : r = false ∧ ∃ p q, x = .ref p ∧ RatAt C H p q ∧ Oth X.K H y := by
  unfold othD at ho
  rw [Bool.and_eq_true] at ho
  obtain ⟨h1, h2⟩ := ho
  cases a <;> first | (cases h1; done) | skip
  rename_i q
  obtain ⟨p, rfl, rp⟩ := rat_of ra
  have fin : Oth X.K H y → D.eqv (.rat q) b = some false → r = false ∧ ∃ p' q', V.ref p = .ref p' ∧ RatAt C H p' q' ∧ Oth X.K H y := fun o e => by
    rw [e] at h
    cases h
    exact ⟨rfl, p, q, rfl, rp, o⟩
  cases b with
  | non => rw [non_of rb] at fin ⊢; exact fin ⟨"NoneType", by simp, .non, .base .non⟩ rfl
  | bl b => rw [bl_of rb] at fin ⊢; exact fin ⟨"bool", by simp, .bl b, .base (.bl b)⟩ rfl
  | int b => rw [int_of rb] at fin ⊢; exact fin ⟨"int", by simp, .int b, .base (.int b)⟩ rfl
  | str b => rw [str_of rb] at fin ⊢; exact fin ⟨"str", by simp, .str b, .base (.str b)⟩ rfl
  | rat b => cases h2
  | tup b =>
    obtain ⟨p1, vs, rfl, e1, _⟩ := tup_of rb
    exact fin ⟨"tuple", by simp, .tup (SqT.of e1), .base (.tup e1)⟩ rfl
  | lst o b =>
    obtain ⟨p1, vs, f, rfl, e1, _⟩ := lst_of rb
    exact fin ⟨"list", by simp, .lst (SqL.of e1), .base (.lst e1)⟩ rfl
  | strm => cases h2
  | scr ns => cases h2
/-! lists and tuples with fractions, what each item says -/
abbrev EqvB := V → V → Bool → Hp → Prop
def EqB (X : Cx) (n : Nat) (D : EqvB) : Prop := ∀ (A : Around) (pins : List (Addr × Obj)) (s : Shared) (σ : L2.St) (H : Hp) (x y : V) (r : Bool) (u v : Value), Sub X n A → Inv X pins σ H s → RelV x u → RelV y v → D x y r H →
  wpAny (model X.prog X.w) A (eqBool u v) (fun b s' => b = r ∧ ∃ H', Inv X pins σ H' s' ∧ Ext H H') X.xe s
def RcB (X : Cx) (n : Nat) (D : EqvB) (op : CmpOp) (neg : Bool) : Prop := ∀ (A : Around) (pins : List (Addr × Obj)) (s : Shared) (σ : L2.St) (H : Hp) (x y : V) (r : Bool) (u v : Value), Sub X n A → Inv X pins σ H s → RelV x u → RelV y v → D x y r H →
  wpAny (model X.prog X.w) A (richCompare op u v) (fun b s' => b = .bool (if neg then !r else r) ∧ ∃ H', Inv X pins σ H' s' ∧ Ext H H') X.xe s
theorem RcB.at {n : Nat} {D : EqvB} (h : RcB X n D .Eq false) {A : Around} {pins : List (Addr × Obj)} {s : Shared} {σ : L2.St} {H : Hp} {a b : Addr} {r : Bool} (hab : a ≠ b) (sb : Sub X n A) (I : Inv X pins σ H s) (d : D (.ref a) (.ref b) r H) :
    wpAny (model X.prog X.w) A (eqBool (.ref a) (.ref b)) (fun b s' => b = r ∧ ∃ H', Inv X pins σ H' s' ∧ Ext H H') X.xe s := by
  refine GQ.eqBool_refG hab (wpAny_mono (h A pins s σ H (.ref a) (.ref b) r _ _ sb I rfl rfl d) (fun z s' q => ?_) fun _ _ x => x)
  obtain ⟨hz, q⟩ := q
  exact ⟨r, hz, rfl, q⟩
/-- both fractions, or a fraction and something else -/
def DRt (C : Addr) (K : PySem.W.Frag) : EqvB := fun x y r H => (∃ p q a b, x = .ref p ∧ y = .ref q ∧ RatAt C H p a ∧ RatAt C H q b ∧ r = (a == b)) ∨ ∃ p a, x = .ref p ∧ RatAt C H p a ∧ Oth K H y ∧ r = false
theorem rcB_rat (M : MethOk X.prog X.w X.K X.mg X.base C "__eq__" 1 (spRel X.K C false)) : RcB X 1 (DRt C X.K) .Eq false := by
  intro A pins s σ H x y r u v sb I rx ry d
  obtain ⟨f, fd, ps, F, hs, hf, bd⟩ := M.ex
  obtain ⟨m, hF⟩ := I.fr
  have e0 : Env0 X.prog X.w X.K X.mg X.base A X.stack s H := by
    have e := I.env0
    exact ⟨by rw [sb.fr]; exact e.frames, e.mod, e.bs, e.bsz, e.funs, e.frf, e.hok, e.bare⟩
  have go : ∀ (p : Addr), spRel X.K C false [.ref p, y] H (fun v H' => v = .bl r ∧ H' = H) E0 → wpAny (model X.prog X.w) A (call (.ref f) [.ref p, v]) (PySem.W.CmpBack fun b s' => b = .bool (if false then !r else r) ∧ ∃ H', Inv X pins σ H' s' ∧ Ext H H') X.xe s := by
    intro p hsp
    have hl := F.len _ _ _ _ hsp
    have r2 : Vals [V.ref p, y] [Value.ref p, v] := .cons rfl (.cons ry .nil)
    refine wpAny_call (codeAny_mono (F.run A X.stack s H ⟨[.ref p, v], []⟩ [.ref p, v] [.ref p, y] _ E0 sb.room e0 (by
      have := bd s [.ref p, v] I.kIn (by simpa using hl)
      simpa using this) r2 hsp) fun z s' hq => ?_)
    cases z with
    | error e => exact pass0 pins σ H s e s' I hq
    | ok fl =>
      cases fl with
      | ret w =>
        obtain ⟨z, H', I', rz, ez, ex⟩ := I.after hq
        subst ez ex
        cases rz
        exact ⟨rfl, H', I', Ext.rfl'⟩
      | next => exact False.elim hq
      | brk => exact False.elim hq
      | cont => exact False.elim hq
  rcases d with ⟨p, q, a, b, rfl, rfl, ⟨dx, fs, ha, ha'⟩, ⟨dy, gs, hb, hb'⟩, rfl⟩ | ⟨p, a, rfl, ⟨dx, fs, ha, ha'⟩, ot, rfl⟩
  · cases rx
    cases ry
    obtain ⟨od, J⟩ := inst_of I ha
    obtain ⟨od', J'⟩ := inst_of I hb
    refine PySem.W.cmp_K (op := .Eq) (tb := .ref C) sb.room.units0 hF I.ok.mod.kin J J'.type (by simp [PySem.W.notFirst]) hs hf ?_
    exact go p (.inl ⟨p, q, a, b, rfl, ⟨dx, fs, ha, ha'⟩, ⟨dy, gs, hb, hb'⟩, rfl, rfl⟩)
  · cases rx
    obtain ⟨od, J⟩ := inst_of I ha
    obtain ⟨T, hT, tb, tx⟩ := id ot
    refine PySem.W.cmp_K (op := .Eq) (tb := .type T) sb.room.units0 hF I.ok.mod.kin J (looks_ty (tb.is I ry)) (not_first T hT) hs hf ?_
    exact go p (.inr ⟨p, y, a, rfl, ⟨dx, fs, ha, ha'⟩, ot, rfl, rfl⟩)
/-! what a tree says of two values -/
theorem rat_fun {C : Addr} {H : Hp} {p : Addr} {a b : Rat} (h1 : RatAt C H p a) (h2 : RatAt C H p b) : a = b := by
  obtain ⟨dx, fs, e1, n1, d1⟩ := h1
  obtain ⟨dy, gs, e2, n2, d2⟩ := h2
  rw [e1] at e2
  cases e2
  rw [n1] at n2
  rw [d1] at d2
  injection n2 with n2
  injection n2 with n2
  injection d2 with d2
  injection d2 with d2
  exact Rat.ext n2 (by exact_mod_cast d2)
mutual
theorem same_eqv {K : PySem.W.Frag} {C : Addr} {p0 : Option Addr} {H : Hp} {G : GS} : ∀ (a b : D) {v : V} {fa fb : List Addr} {r : Bool}, Rep K C p0 H G a v fa → Rep K C p0 H G b v fb → D.eqv a b = some r → r = true
  | .non, b, v, fa, fb, r, ra, rb, h => by
    have e := non_of ra
    cases b with
    | non => exact (Option.some.inj h).symm
    | bl _ => cases e.symm.trans (bl_of rb)
    | int _ => cases e.symm.trans (int_of rb)
    | str _ => cases e.symm.trans (str_of rb)
    | rat _ => obtain ⟨p, z, _⟩ := rat_of rb; cases e.symm.trans z
    | tup _ => obtain ⟨p, _, z, _⟩ := tup_of rb; cases e.symm.trans z
    | lst _ _ => obtain ⟨p, _, _, z, _⟩ := lst_of rb; cases e.symm.trans z
    | strm => cases h
    | scr _ => cases h
  | .bl c, b, v, fa, fb, r, ra, rb, h => by
    have e := bl_of ra
    cases b with
    | non => cases e.symm.trans (non_of rb)
    | bl _ => cases e.symm.trans (bl_of rb); rw [← Option.some.inj h]; exact beq_self_eq_true _
    | int _ => cases e.symm.trans (int_of rb)
    | str _ => cases e.symm.trans (str_of rb)
    | rat _ => obtain ⟨p, z, _⟩ := rat_of rb; cases e.symm.trans z
    | tup _ => obtain ⟨p, _, z, _⟩ := tup_of rb; cases e.symm.trans z
    | lst _ _ => obtain ⟨p, _, _, z, _⟩ := lst_of rb; cases e.symm.trans z
    | strm => cases h
    | scr _ => cases h
  | .int c, b, v, fa, fb, r, ra, rb, h => by
    have e := int_of ra
    cases b with
    | non => cases e.symm.trans (non_of rb)
    | bl _ => cases e.symm.trans (bl_of rb)
    | int _ => cases e.symm.trans (int_of rb); rw [← Option.some.inj h]; exact beq_self_eq_true _
    | str _ => cases e.symm.trans (str_of rb)
    | rat _ => obtain ⟨p, z, _⟩ := rat_of rb; cases e.symm.trans z
    | tup _ => obtain ⟨p, _, z, _⟩ := tup_of rb; cases e.symm.trans z
    | lst _ _ => obtain ⟨p, _, _, z, _⟩ := lst_of rb; cases e.symm.trans z
    | strm => cases h
    | scr _ => cases h
  | .str c, b, v, fa, fb, r, ra, rb, h => by
    have e := str_of ra
    cases b with
    | non => cases e.symm.trans (non_of rb)
    | bl _ => cases e.symm.trans (bl_of rb)
    | int _ => cases e.symm.trans (int_of rb)
    | str _ => cases e.symm.trans (str_of rb); rw [← Option.some.inj h]; exact beq_self_eq_true _
    | rat _ => obtain ⟨p, z, _⟩ := rat_of rb; cases e.symm.trans z
    | tup _ => obtain ⟨p, _, z, _⟩ := tup_of rb; cases e.symm.trans z
    | lst _ _ => obtain ⟨p, _, _, z, _⟩ := lst_of rb; cases e.symm.trans z
    | strm => cases h
    | scr _ => cases h
  | .rat c, b, v, fa, fb, r, ra, rb, h => by
    obtain ⟨p, e, q⟩ := rat_of ra
    obtain ⟨dx, fs, q1, _⟩ := id q
    cases b with
    | non => cases e.symm.trans (non_of rb)
    | bl _ => cases e.symm.trans (bl_of rb)
    | int _ => cases e.symm.trans (int_of rb)
    | str _ => cases e.symm.trans (str_of rb)
    | rat d =>
      obtain ⟨p', z, q'⟩ := rat_of rb
      cases e.symm.trans z
      rw [← Option.some.inj h, rat_fun q q']
      exact beq_self_eq_true _
    | tup _ => obtain ⟨p, _, z, y, _⟩ := tup_of rb; cases e.symm.trans z; cases q1.symm.trans y
    | lst _ _ => obtain ⟨p, _, _, z, y, _⟩ := lst_of rb; cases e.symm.trans z; cases q1.symm.trans y
    | strm => cases h
    | scr _ => cases h
  | .tup as, b, v, fa, fb, r, ra, rb, h => by
    obtain ⟨p, vs, e, q1, rs⟩ := tup_of ra
    cases b with
    | non => cases e.symm.trans (non_of rb)
    | bl _ => cases e.symm.trans (bl_of rb)
    | int _ => cases e.symm.trans (int_of rb)
    | str _ => cases e.symm.trans (str_of rb)
    | rat d =>
      obtain ⟨p', z, dx, fs, y, _⟩ := rat_of rb
      cases e.symm.trans z
      cases q1.symm.trans y
    | tup bs =>
      obtain ⟨p', us, z, y, rs'⟩ := tup_of rb
      cases e.symm.trans z
      cases q1.symm.trans y
      unfold D.eqv at h
      exact same_eqvs as bs rs rs' h
    | lst _ _ => obtain ⟨p, _, _, z, y, _⟩ := lst_of rb; cases e.symm.trans z; cases q1.symm.trans y
    | strm => cases h
    | scr _ => cases h
  | .lst o as, b, v, fa, fb, r, ra, rb, h => by
    obtain ⟨p, vs, f, e, q1, _, rs, _⟩ := lst_of ra
    cases b with
    | non => cases e.symm.trans (non_of rb)
    | bl _ => cases e.symm.trans (bl_of rb)
    | int _ => cases e.symm.trans (int_of rb)
    | str _ => cases e.symm.trans (str_of rb)
    | rat d =>
      obtain ⟨p', z, dx, fs, y, _⟩ := rat_of rb
      cases e.symm.trans z
      cases q1.symm.trans y
    | tup _ => obtain ⟨p, _, z, y, _⟩ := tup_of rb; cases e.symm.trans z; cases q1.symm.trans y
    | lst o' bs =>
      obtain ⟨p', us, f', z, y, _, rs', _⟩ := lst_of rb
      cases e.symm.trans z
      cases q1.symm.trans y
      unfold D.eqv at h
      have l1 := rs.length
      have l2 := rs'.length
      rw [if_pos (by omega)] at h
      exact same_eqvs as bs rs rs' h
    | strm => cases h
    | scr _ => cases h
  | .strm, b, _, _, _, _, _, _, h => by cases b <;> cases h
  | .scr _, b, _, _, _, _, _, _, h => by cases b <;> cases h
theorem same_eqvs {K : PySem.W.Frag} {C : Addr} {p0 : Option Addr} {H : Hp} {G : GS} : ∀ (as bs : List D) {vs : List V} {fa fb : List Addr} {r : Bool}, Reps K C p0 H G as vs fa → Reps K C p0 H G bs vs fb → D.eqvs as bs = some r → r = true
  | [], [], vs, fa, fb, r, ra, rb, h => by
    unfold D.eqvs at h
    exact (Option.some.inj h).symm
  | [], b :: bs, vs, fa, fb, r, ra, rb, h => by
    obtain ⟨rfl, _⟩ := Reps.nil_iff.mp ra
    obtain ⟨v, r', f, g, z, _⟩ := Reps.cons_iff.mp rb
    cases z
  | a :: as, [], vs, fa, fb, r, ra, rb, h => by
    obtain ⟨rfl, _⟩ := Reps.nil_iff.mp rb
    obtain ⟨v, r', f, g, z, _⟩ := Reps.cons_iff.mp ra
    cases z
  | a :: as, b :: bs, vs, fa, fb, r, ra, rb, h => by
    obtain ⟨v, r', f, g, rfl, _, a1, a2⟩ := Reps.cons_iff.mp ra
    obtain ⟨v', r'', f', g', z, _, b1, b2⟩ := Reps.cons_iff.mp rb
    cases z
    unfold D.eqvs at h
    cases e : D.eqv a b with
    | none => rw [e] at h; cases h
    | some c =>
      rw [e] at h
      have := same_eqv a b a1 b1 e
      subst this
      exact same_eqvs as bs a2 b2 h
end
def DTB (K : PySem.W.Frag) (C : Addr) (n : Nat) : EqvB := fun x y r H => ∃ p0 G a b fa fb, PL p0 H ∧ Rep K C p0 H G a x fa ∧ Rep K C p0 H G b y fb ∧ deepC n a b = true ∧ D.eqv a b = some r
/-- the same, of two sequences -/
def DSB (K : PySem.W.Frag) (C : Addr) (n : Nat) (xs ys : List V) (r : Bool) (H : Hp) : Prop := ∃ p0 G as bs fa fb, PL p0 H ∧ Reps K C p0 H G as xs fa ∧ Reps K C p0 H G bs ys fb ∧ cmpsC (deepC n) as bs = true ∧ D.eqvs as bs = some r
theorem DSB.ext {n : Nat} {xs ys : List V} {r : Bool} {H H' : Hp} (e : Ext H H') (d : DSB X.K C n xs ys r H) : DSB X.K C n xs ys r H' := by
  obtain ⟨p0, G, a, b, fa, fb, pl, ra, rb, h⟩ := d
  have g : Grow p0 H G H' G := ⟨fun p o _ h => e p o h, fun _ h => h, fun _ _ _ h _ => h, fun _ _ xs _ h => ⟨xs, e _ _ h⟩⟩
  exact ⟨p0, G, a, b, fa, fb, fun p z => let ⟨xs, q⟩ := pl p z; ⟨xs, e _ _ q⟩, ra.grow pl g, rb.grow pl g, h⟩
/-- one step: the heads, and what is left -/
theorem DSB.step {n : Nat} {x y : V} {xs ys : List V} {r : Bool} {H : Hp} (d : DSB X.K C n (x :: xs) (y :: ys) r H) : (DTB X.K C n x y true H ∧ DSB X.K C n xs ys r H) ∨ (DTB X.K C n x y false H ∧ r = false) := by
  obtain ⟨p0, G, as, bs, fa, fb, pl, ra, rb, hc, h⟩ := d
  cases as with
  | nil => obtain ⟨z, _⟩ := Reps.nil_iff.mp ra; cases z
  | cons a as =>
    cases bs with
    | nil => obtain ⟨z, _⟩ := Reps.nil_iff.mp rb; cases z
    | cons b bs =>
      obtain ⟨v, r', f, g, z, _, a1, a2⟩ := Reps.cons_iff.mp ra
      cases z
      obtain ⟨v', r'', f', g', z, _, b1, b2⟩ := Reps.cons_iff.mp rb
      cases z
      unfold D.eqvs at h
      unfold cmpsC at hc
      rw [Bool.and_eq_true] at hc
      cases e : D.eqv a b with
      | none => rw [e] at h; cases h
      | some c =>
        rw [e] at h hc
        cases c with
        | true => exact .inl ⟨⟨p0, G, a, b, _, _, pl, a1, b1, hc.1, e⟩, p0, G, as, bs, _, _, pl, a2, b2, hc.2, h⟩
        | false => exact .inr ⟨⟨p0, G, a, b, _, _, pl, a1, b1, hc.1, e⟩, (Option.some.inj h).symm⟩
theorem DSB.nils {n : Nat} {xs ys : List V} {r : Bool} {H : Hp} (d : DSB X.K C n xs ys r H) (h : xs = [] ∨ ys = []) : r = (xs.length == ys.length) := by
  obtain ⟨p0, G, as, bs, fa, fb, pl, ra, rb, hc, e⟩ := d
  have l1 := ra.length
  have l2 := rb.length
  rw [← l1, ← l2]
  cases as with
  | nil =>
    cases bs with
    | nil => unfold D.eqvs at e; exact (Option.some.inj e).symm
    | cons b bs => unfold D.eqvs at e; rw [← Option.some.inj e]; rfl
  | cons a as =>
    cases bs with
    | nil => unfold D.eqvs at e; rw [← Option.some.inj e]; rfl
    | cons b bs =>
      rcases h with h | h
      · rw [h] at l1; cases l1
      · rw [h] at l2; cases l2
theorem DTB.ext {n : Nat} {x y : V} {r : Bool} {H H' : Hp} (e : Ext H H') (d : DTB X.K C n x y r H) : DTB X.K C n x y r H' := by
  obtain ⟨p0, G, a, b, fa, fb, pl, ra, rb, h⟩ := d
  have g : Grow p0 H G H' G := ⟨fun p o _ h => e p o h, fun _ h => h, fun _ _ _ h _ => h, fun _ _ xs _ h => ⟨xs, e _ _ h⟩⟩
  exact ⟨p0, G, a, b, fa, fb, fun p z => let ⟨xs, q⟩ := pl p z; ⟨xs, e _ _ q⟩, ra.grow pl g, rb.grow pl g, h⟩
theorem drop_next {α : Type} {xs : List α} {i : Nat} {x : α} (h : xs[i]? = some x) : xs.drop i = x :: xs.drop (i + 1) := by
  obtain ⟨h1, h2⟩ := List.getElem?_eq_some_iff.mp h
  rw [List.drop_eq_getElem_cons h1, h2]
theorem drop_none {α : Type} {xs : List α} {i : Nat} (h : xs.length ≤ i) : xs.drop i = [] := List.drop_eq_nil_of_le h
def DLB (K : PySem.W.Frag) (C : Addr) (n : Nat) : EqvB := fun x y r H => ∃ a b xs ys, x = .ref a ∧ y = .ref b ∧ H a = some (.lst xs) ∧ H b = some (.lst ys) ∧ ((xs.length ≠ ys.length ∧ r = false) ∨ (xs.length = ys.length ∧ DSB K C n xs ys r H))
def DUB (K : PySem.W.Frag) (C : Addr) (n : Nat) : EqvB := fun x y r H => ∃ a b xs ys, x = .ref a ∧ y = .ref b ∧ SqT K H a xs ∧ SqT K H b ys ∧ DSB K C n xs ys r H
def GoB (X : Cx) (C : Addr) (n : Nat) (pins : List (Addr × Obj)) (σ : L2.St) (H : Hp) (xs ys : List V) (r : Bool) (i : Nat) (s' : Shared) : Prop := LoopI X pins σ H s' ∧ DSB X.K C n (xs.drop i) (ys.drop i) r H
theorem turnB {n m : Nat} (ih : EqB X m (DTB X.K C n)) {A : Around} (sb : Sub X (m + 1) A) {pins : List (Addr × Obj)} {σ : L2.St} {H : Hp} {xs ys : List V} {r : Bool} {its its2 : List Value} (rx : Vals xs its) (ry : Vals ys its2) (i : Nat) (h1 : i < its.toArray.size) (h2 : i < its2.toArray.size) (s' : Shared) (l : GoB X C n pins σ H xs ys r i s') :
    wpAny (model X.prog X.w) A.in1 (eqBool its.toArray[i] its2.toArray[i]) (fun z s2 => (z = true ∧ GoB X C n pins σ H xs ys r (i + 1) s2) ∨ (z = false ∧ (r = false ∧ LoopI X pins σ H s2))) X.xe s' := by
  obtain ⟨⟨H1, I1, e1⟩, d⟩ := l
  have i1 : i < its.length := by simpa using h1
  have i2 : i < its2.length := by simpa using h2
  have k1 : i < xs.length := by rw [rx.length]; exact i1
  have k2 : i < ys.length := by rw [ry.length]; exact i2
  obtain ⟨u, hu, ru⟩ := rx.get (List.getElem?_eq_getElem k1)
  obtain ⟨v, hv, rv⟩ := ry.get (List.getElem?_eq_getElem k2)
  have g1 : its.toArray[i] = u := by rw [List.getElem?_eq_getElem i1] at hu; rw [← Option.some.inj hu]; simp
  have g2 : its2.toArray[i] = v := by rw [List.getElem?_eq_getElem i2] at hv; rw [← Option.some.inj hv]; simp
  rw [g1, g2]
  rw [drop_next (List.getElem?_eq_getElem k1), drop_next (List.getElem?_eq_getElem k2)] at d
  rcases d.step with ⟨d1, d2⟩ | ⟨d1, rfl⟩
  · refine wpAny_mono (ih A.in1 pins s' σ H1 _ _ _ u v sb.in1 I1 ru rv (d1.ext e1)) (fun z s2 q => ?_) fun _ _ x => x
    obtain ⟨hz, H2, I2, e2⟩ := q
    exact .inl ⟨hz, ⟨H2, I2, e1.trans e2⟩, d2⟩
  · refine wpAny_mono (ih A.in1 pins s' σ H1 _ _ _ u v sb.in1 I1 ru rv (d1.ext e1)) (fun z s2 q => ?_) fun _ _ x => x
    obtain ⟨hz, H2, I2, e2⟩ := q
    exact .inr ⟨hz, rfl, H2, I2, e1.trans e2⟩
theorem listJ {n m : Nat} (ih : EqB X m (DTB X.K C n)) {A : Around} (sb : Sub X (m + 1) A) {pins : List (Addr × Obj)} {σ : L2.St} {H : Hp} {a b : Addr} {xs ys : List V} {r : Bool} (ha : H a = some (.lst xs)) (hb : H b = some (.lst ys)) (hl : xs.length = ys.length) :
    GB.ListJ X.prog X.w A X.xe a b xs.length (GoB X C n pins σ H xs ys r) (fun s' => r = false ∧ LoopI X pins σ H s') := by
  refine ⟨fun i s' q => ?_, fun s' q => ?_⟩
  · obtain ⟨H1, I1, e1⟩ := id q.1
    obtain ⟨z, its, k, rv, e⟩ := I1.hok a _ (e1 _ _ ha)
    obtain ⟨z2, its2, k2, rv2, e2⟩ := I1.hok b _ (e1 _ _ hb)
    refine ⟨its.toArray, its2.toArray, k, k2, e, e2, by rw [List.size_toArray, ← rv.length], by rw [List.size_toArray, ← rv2.length, hl], fun h1 h2 => ?_⟩
    exact turnB ih sb rv rv2 i h1 h2 s' q
  · obtain ⟨_, H1, I1, e1⟩ := q
    obtain ⟨z, its, k, rv, e⟩ := I1.hok a _ (e1 _ _ ha)
    obtain ⟨z2, its2, k2, rv2, e2⟩ := I1.hok b _ (e1 _ _ hb)
    exact ⟨⟨its.toArray, k, e, by rw [List.size_toArray, ← rv.length]⟩, its2.toArray, k2, e2, by rw [List.size_toArray, ← rv2.length, hl]⟩
theorem rcB_list {n m : Nat} (ih : EqB X m (DTB X.K C n)) (neg : Bool) : RcB X (m + 1) (DLB X.K C n) (if neg then .NotEq else .Eq) neg := by
  intro A pins s σ H x y r u v sb I rx ry d
  obtain ⟨a, b, xs, ys, rfl, rfl, ha, hb, d⟩ := d
  cases rx
  cases ry
  rcases d with ⟨hl, rfl⟩ | ⟨hl, d⟩
  · obtain ⟨z, its, k, rv, e⟩ := I.hok a _ ha
    obtain ⟨z2, its2, k2, rv2, e2⟩ := I.hok b _ hb
    have hne : (its.toArray.size != its2.toArray.size) = true := by
      rw [List.size_toArray, List.size_toArray, ← rv.length, ← rv2.length]
      simpa using hl
    cases neg with
    | false => exact GB.listEqL e e2 hne sb.room.units0 ⟨rfl, H, I, Ext.rfl'⟩
    | true => exact GB.listNeL e e2 hne sb.room.units0 ⟨rfl, H, I, Ext.rfl'⟩
  · have J := listJ (A := A) (pins := pins) (σ := σ) (r := r) ih sb ha hb hl
    have st : GoB X C n pins σ H xs ys r 0 s := ⟨⟨H, I, Ext.rfl'⟩, d⟩
    have fin : ∀ s', GoB X C n pins σ H xs ys r xs.length s' → r = true := fun s' q => by
      have := q.2.nils (.inl (drop_none (Nat.le_refl _)))
      rw [drop_none (Nat.le_refl _), drop_none (by omega)] at this
      exact this
    cases neg with
    | false => exact GB.listEq sb.room.units0 _ _ J (fun s' q => by rw [fin s' q]; exact ⟨rfl, q.1⟩) (fun s' q => by rw [q.1]; exact ⟨rfl, q.2⟩) st
    | true => exact GB.listNe sb.room.units0 _ _ J (fun s' q => by rw [fin s' q]; exact ⟨rfl, q.1⟩) (fun s' q => by rw [q.1]; exact ⟨rfl, q.2⟩) st
theorem rcB_tup {n m : Nat} (ih : EqB X m (DTB X.K C n)) : RcB X (m + 1) (DUB X.K C n) .Eq false := by
  intro A pins s σ H x y r u v sb I rx ry d
  obtain ⟨a, b, xs, ys, rfl, rfl, ha, hb, d⟩ := d
  cases rx
  cases ry
  obtain ⟨its, rv, e, z⟩ := I.tuple ha
  obtain ⟨its2, rv2, e2, z2⟩ := I.tuple hb
  refine GB.tupEq sb.room.units0 (GoB X C n pins σ H xs ys r) (fun s' => r = false ∧ LoopI X pins σ H s') e e2 (fun i h1 h2 s' q => turnB ih sb rv rv2 i h1 h2 s' q) (fun s' q => ?_) (fun s' q => by rw [q.1]; exact ⟨rfl, q.2⟩) ⟨⟨H, I, Ext.rfl'⟩, d⟩
  have l1 := rv.length
  have l2 := rv2.length
  rw [List.size_toArray, List.size_toArray, ← l1, ← l2] at q
  rw [List.size_toArray, List.size_toArray, ← l1, ← l2]
  refine ⟨?_, q.1⟩
  have : r = ((xs.drop (min xs.length ys.length)).length == (ys.drop (min xs.length ys.length)).length) := by
    refine q.2.nils ?_
    rcases Nat.le_total xs.length ys.length with h | h
    · exact .inl (drop_none (by omega))
    · exact .inr (drop_none (by omega))
  rw [this, List.length_drop, List.length_drop]
  congr 1
  rw [Bool.eq_iff_iff]
  simp
  omega
theorem oth_of {p0 : Option Addr} {G : GS} {H : Hp} {a b : D} {y : V} {fb : List Addr} (ho : othD a b = true) (rb : Rep X.K C p0 H G b y fb) : Oth X.K H y := by
  unfold othD at ho
  rw [Bool.and_eq_true] at ho
  obtain ⟨_, h2⟩ := ho
  cases b with
  | non => rw [non_of rb]; exact ⟨"NoneType", by simp, .non, .base .non⟩
  | bl b => rw [bl_of rb]; exact ⟨"bool", by simp, .bl b, .base (.bl b)⟩
  | int b => rw [int_of rb]; exact ⟨"int", by simp, .int b, .base (.int b)⟩
  | str b => rw [str_of rb]; exact ⟨"str", by simp, .str b, .base (.str b)⟩
  | rat b => cases h2
  | tup b =>
    obtain ⟨p1, vs, rfl, e1, _⟩ := tup_of rb
    exact ⟨"tuple", by simp, .tup (SqT.of e1), .base (.tup e1)⟩
  | lst o b =>
    obtain ⟨p1, vs, f, rfl, e1, _⟩ := lst_of rb
    exact ⟨"list", by simp, .lst (SqL.of e1), .base (.lst e1)⟩
  | strm => cases h2
  | scr ns => cases h2
theorem plain_39 {d : D} (h : d.plain 39 = true) : SeqAt.shaped d.toP = true := by
  obtain ⟨l1, d1⟩ := plain_lay h
  unfold SeqAt.shaped
  rw [l1, Bool.true_and]
  exact decide_eq_true (by omega)
/-- a fraction against anything -/
theorem eqB_rat (M : MethOk X.prog X.w X.K X.mg X.base C "__eq__" 1 (spRel X.K C false)) {A : Around} {pins : List (Addr × Obj)} {s : Shared} {σ : L2.St} {H : Hp} {x y : V} {r : Bool} {u v : Value} {a b : D} {p0 : Option Addr} {G : GS} {fa fb : List Addr} (sb : Sub X 1 A) (I : Inv X pins σ H s) (rx : RelV x u) (ry : RelV y v) (ra : Rep X.K C p0 H G a x fa) (rb : Rep X.K C p0 H G b y fb) (hc : ((isRat a && isRat b) || othD a b) = true) (e : D.eqv a b = some r) :
    wpAny (model X.prog X.w) A (eqBool u v) (fun b s' => b = r ∧ ∃ H', Inv X pins σ H' s' ∧ Ext H H') X.xe s := by
  have d : DRt C X.K x y r H := by
    rcases Bool.or_eq_true_iff.mp hc with hc | hc
    · rw [Bool.and_eq_true] at hc
      cases a <;> first | (cases hc.1; done) | skip
      cases b <;> first | (cases hc.2; done) | skip
      obtain ⟨p, rfl, r1⟩ := rat_of ra
      obtain ⟨q, rfl, r2⟩ := rat_of rb
      unfold D.eqv at e
      exact .inl ⟨p, q, _, _, rfl, rfl, r1, r2, (Option.some.inj e).symm⟩
    · obtain ⟨rfl, p, q, rfl, r1, o1⟩ := oth_cases hc e ra rb
      exact .inr ⟨p, q, rfl, r1, o1, rfl⟩
  obtain ⟨p, ex⟩ : ∃ p, x = .ref p := by
    rcases d with ⟨p, _, _, _, e, _⟩ | ⟨p, _, e, _⟩ <;> exact ⟨p, e⟩
  subst ex
  cases rx
  by_cases hab : v = .ref p
  · subst hab
    cases y <;> first | (cases ry; done) | (obtain ⟨_, z⟩ := ry; cases z; done) | skip
    cases ry
    rw [same_eqv a b ra rb e]
    exact SeqAt.EqAt.same (A := A) (s := s) (.ref p) X.prog X.w X.xe _ ⟨rfl, H, I, Ext.rfl'⟩
  · have rc := rcB_rat M A pins s σ H (.ref p) y r (.ref p) v sb I rfl ry d
    unfold eqBool
    refine wpAny_holding ?_
    refine wpAny_ite_split (fun h => absurd (eq_of_beq h).symm hab) (fun _ => ?_)
    refine wpAny_bind (wpAny_mono rc (fun z s' q => ?_) fun _ _ x => x)
    obtain ⟨rfl, q⟩ := q
    exact wpAny_truthy_bool ⟨rfl, q⟩
theorem eqB_flat (M : MethOk X.prog X.w X.K X.mg X.base C "__eq__" 1 (spRel X.K C false)) {n : Nat} {A : Around} {pins : List (Addr × Obj)} {s : Shared} {σ : L2.St} {H : Hp} {x y : V} {r : Bool} {u v : Value} {a b : D} {p0 : Option Addr} {G : GS} {fa fb : List Addr} (sb : Sub X (n + 1) A) (I : Inv X pins σ H s) (rx : RelV x u) (ry : RelV y v) (ra : Rep X.K C p0 H G a x fa) (rb : Rep X.K C p0 H G b y fb) (hc : ((a.plain 39 && b.plain 39) || ((isRat a && isRat b) || othD a b)) = true) (e : D.eqv a b = some r) :
    wpAny (model X.prog X.w) A (eqBool u v) (fun b s' => b = r ∧ ∃ H', Inv X pins σ H' s' ∧ Ext H H') X.xe s := by
  rcases Bool.or_eq_true_iff.mp hc with hc | hc
  · rw [Bool.and_eq_true] at hc
    obtain ⟨as, q1⟩ := Dp.reads I _ x u (plain_dp hc.1 ra) rx
    obtain ⟨bs, q2⟩ := Dp.reads I _ y v (plain_dp hc.2 rb) ry
    obtain ⟨l1, d1⟩ := plain_lay hc.1
    obtain ⟨l2, d2⟩ := plain_lay hc.2
    have := SeqAt.eqAt_reads _ _ A s u v as bs q1 q2 l1 l2 (SeqAt.room_of_shaped (plain_39 hc.1) (by have := sb.room.un; omega))
    rw [eqv_toP a b hc.1 hc.2 e] at this
    exact this X.prog X.w X.xe _ ⟨rfl, H, I, Ext.rfl'⟩
  · exact eqB_rat M (sb.mono (by omega)) I rx ry ra rb hc e
theorem ref_ne {p0 : Option Addr} {H : Hp} {G : GS} {a b : Addr} {d e : D} {r : Bool} {fa fb : List Addr} (ra : Rep X.K C p0 H G d (.ref a) fa) (rb : Rep X.K C p0 H G e (.ref b) fb) (h : D.eqv d e = some r) : a = b → r = true := fun z => by subst z; exact same_eqv d e ra rb h
theorem eqB_DTB (M : MethOk X.prog X.w X.K X.mg X.base C "__eq__" 1 (spRel X.K C false)) : ∀ n, EqB X (n + 1) (DTB X.K C n)
  | 0 => by
    intro A pins s σ H x y r u v sb I rx ry d
    obtain ⟨p0, G, a, b, fa, fb, pl, ra, rb, hc, e⟩ := d
    unfold deepC at hc
    exact eqB_flat M sb I rx ry ra rb hc e
  | n + 1 => by
    have ih := eqB_DTB M n
    intro A pins s σ H x y r u v sb I rx ry d
    obtain ⟨p0, G, a, b, fa, fb, pl, ra, rb, hc, e⟩ := d
    unfold deepC at hc
    rcases Bool.or_eq_true_iff.mp hc with hc | hc
    · exact eqB_flat M sb I rx ry ra rb hc e
    · cases a with
      | tup as =>
        cases b with
        | tup bs =>
          obtain ⟨p, xs, rfl, e1, r1⟩ := tup_of ra
          obtain ⟨q, ys, rfl, e2, r2⟩ := tup_of rb
          cases rx
          cases ry
          by_cases hab : p = q
          · have := ref_ne ra rb e hab
            subst hab this
            exact SeqAt.EqAt.same (A := A) (s := s) (.ref p) X.prog X.w X.xe _ ⟨rfl, H, I, Ext.rfl'⟩
          · unfold D.eqv at e
            exact (rcB_tup ih).at hab sb I ⟨p, q, xs, ys, rfl, rfl, SqT.of e1, SqT.of e2, p0, G, as, bs, _, _, pl, r1, r2, hc, e⟩
        | _ => cases hc
      | lst o as =>
        cases b with
        | lst o' bs =>
          obtain ⟨p, xs, f1, rfl, e1, _, r1, _⟩ := lst_of ra
          obtain ⟨q, ys, f2, rfl, e2, _, r2, _⟩ := lst_of rb
          cases rx
          cases ry
          by_cases hab : p = q
          · have := ref_ne ra rb e hab
            subst hab this
            exact SeqAt.EqAt.same (A := A) (s := s) (.ref p) X.prog X.w X.xe _ ⟨rfl, H, I, Ext.rfl'⟩
          · refine (rcB_list ih false).at hab sb I ⟨p, q, xs, ys, rfl, rfl, e1, e2, ?_⟩
            have l1 := r1.length
            have l2 := r2.length
            unfold D.eqv at e
            by_cases hl : as.length = bs.length
            · rw [if_pos hl] at e
              refine .inr ⟨by omega, p0, G, as, bs, _, _, pl, r1, r2, ?_, e⟩
              have hc : (as.length != bs.length || cmpsC (deepC n) as bs) = true := hc
              rw [hl, bne_self_eq_false, Bool.false_or] at hc
              exact hc
            · rw [if_neg hl] at e
              exact .inl ⟨by omega, (Option.some.inj e).symm⟩
        | _ => cases hc
      | _ => cases hc
/-- at the top -/
theorem dtb_list {p0 : Option Addr} {G : GS} {H : Hp} {o o' : Bool} {as bs : List D} {x y : V} {fa fb : List Addr} {n : Nat} {r : Bool} (pl : PL p0 H) (ra : Rep X.K C p0 H G (.lst o as) x fa) (rb : Rep X.K C p0 H G (.lst o' bs) y fb) (hc : (as.length != bs.length || cmpsC (deepC n) as bs) = true) (e : D.eqv (.lst o as) (.lst o' bs) = some r) : DLB X.K C n x y r H := by
  obtain ⟨p, xs, f1, rfl, e1, _, r1, _⟩ := lst_of ra
  obtain ⟨q, ys, f2, rfl, e2, _, r2, _⟩ := lst_of rb
  refine ⟨p, q, xs, ys, rfl, rfl, e1, e2, ?_⟩
  have l1 := r1.length
  have l2 := r2.length
  unfold D.eqv at e
  by_cases hl : as.length = bs.length
  · rw [if_pos hl] at e
    refine .inr ⟨by omega, p0, G, as, bs, _, _, pl, r1, r2, ?_, e⟩
    rw [hl, bne_self_eq_false, Bool.false_or] at hc
    exact hc
  · rw [if_neg hl] at e
    exact .inl ⟨by omega, (Option.some.inj e).symm⟩
theorem top_eq (hr : Room 8 X.A) (M : MethOk X.prog X.w X.K X.mg X.base C "__eq__" 1 (spRel X.K C false)) {pins : List (Addr × Obj)} {s : Shared} {σ : L2.St} {H : Hp} {x y : V} {v u : Value} {Q : V → Hp → Prop} {p0 : Option Addr} {G : GS} {a b : D} {fa fb : List Addr} {r : Bool} (I : Inv X pins σ H s) (rx : RelV x v) (ry : RelV y u) (pl : PL p0 H) (ra : Rep X.K C p0 H G a x fa) (rb : Rep X.K C p0 H G b y fb) (hc : topC false a b = true) (e : D.eqv a b = some r) (q : ∀ H', Ex H H' → Q (.bl r) H') :
    wpAny (model X.prog X.w) X.A (compareOp .Eq v u) (EP X pins σ Q) X.xe s := by
  show wpAny (model X.prog X.w) X.A (richCompare .Eq v u) (EP X pins σ Q) X.xe s
  have fin : ∀ (D : EqvB), RcB X 8 D .Eq false → D x y r H → wpAny (model X.prog X.w) X.A (richCompare .Eq v u) (EP X pins σ Q) X.xe s := fun D h d => by
    refine wpAny_mono (h X.A pins s σ H x y r v u ⟨hr, rfl⟩ I rx ry d) (fun z s' w => ?_) fun _ _ x => x
    obtain ⟨rfl, H', I', e'⟩ := w
    exact ⟨.bl r, H', I', rfl, q H' e'⟩
  have up : ∀ {D : EqvB} {op : CmpOp} {neg : Bool}, RcB X 6 D op neg → RcB X 8 D op neg := fun h A pins s σ H x y r u v sb => h A pins s σ H x y r u v (sb.mono (by decide))
  cases a with
  | tup as =>
    cases b with
    | tup bs =>
      obtain ⟨p, xs, rfl, e1, r1⟩ := tup_of ra
      obtain ⟨p', ys, rfl, e2, r2⟩ := tup_of rb
      unfold D.eqv at e
      exact fin _ (up (rcB_tup (eqB_DTB M 4))) ⟨p, p', xs, ys, rfl, rfl, SqT.of e1, SqT.of e2, p0, G, as, bs, _, _, pl, r1, r2, hc, e⟩
    | _ => cases hc
  | lst o as =>
    cases b with
    | lst o' bs => exact fin _ (up (rcB_list (eqB_DTB M 4) false)) (dtb_list pl ra rb hc e)
    | _ => cases hc
  | _ => cases hc
theorem top_ne (hr : Room 8 X.A) (M : MethOk X.prog X.w X.K X.mg X.base C "__eq__" 1 (spRel X.K C false)) {pins : List (Addr × Obj)} {s : Shared} {σ : L2.St} {H : Hp} {x y : V} {v u : Value} {Q : V → Hp → Prop} {p0 : Option Addr} {G : GS} {a b : D} {fa fb : List Addr} {r : Bool} (I : Inv X pins σ H s) (rx : RelV x v) (ry : RelV y u) (pl : PL p0 H) (ra : Rep X.K C p0 H G a x fa) (rb : Rep X.K C p0 H G b y fb) (hc : topC true a b = true) (e : D.eqv a b = some r) (q : ∀ H', Ex H H' → Q (.bl (!r)) H') :
    wpAny (model X.prog X.w) X.A (compareOp .NotEq v u) (EP X pins σ Q) X.xe s := by
  show wpAny (model X.prog X.w) X.A (richCompare .NotEq v u) (EP X pins σ Q) X.xe s
  cases a with
  | tup as =>
    cases b with
    | tup bs => cases hc
    | _ => cases hc
  | lst o as =>
    cases b with
    | lst o' bs =>
      have h : RcB X 6 (DLB X.K C 4) .NotEq true := rcB_list (eqB_DTB M 4) true
      refine wpAny_mono (h X.A pins s σ H x y r v u ⟨hr.mono (by decide), rfl⟩ I rx ry (dtb_list pl ra rb hc e)) (fun z s' w => ?_) fun _ _ x => x
      obtain ⟨rfl, H', I', e'⟩ := w
      exact ⟨.bl (!r), H', I', rfl, q H' e'⟩
    | _ => cases hc
  | _ => cases hc
theorem op_eqT (hu : X.A.units + 64 < cLine) (hr : Room 8 X.A) (M : MethOk X.prog X.w X.K X.mg X.base C "__eq__" 1 (spRel X.K C false)) (h : OpR X (compareOp .Eq) (rRel X.K C false)) : OpR X (compareOp .Eq) (rEqv X.K C false) := by
  intro pins s σ H x y v u Q I rx ry hq
  obtain ⟨p0, G, a, b, fa, fb, r, pl, ra, rb, hc, e, q⟩ := hq
  unfold canC at hc
  rcases Bool.or_eq_true_iff.mp hc with hc | hc
  case inr => exact top_eq hr M I rx ry pl ra rb hc e q
  rcases Bool.or_eq_true_iff.mp hc with hc | hc
  case inr =>
    obtain ⟨rfl, p1, q1, rfl, r1, o1⟩ := oth_cases hc e ra rb
    exact h pins s σ H _ _ v u Q I rx ry (.inr ⟨p1, q1, rfl, r1, o1, q H fun _ _ z => z⟩)
  rcases can_cases hc e with ⟨p, q', rfl, rfl, rfl⟩ | ⟨h1, h2, rfl⟩
  · obtain ⟨p1, rfl, r1⟩ := rat_of ra
    obtain ⟨p2, rfl, r2⟩ := rat_of rb
    exact h pins s σ H _ _ v u Q I rx ry (.inl ⟨p1, p2, _, _, rfl, rfl, r1, r2, q H fun _ _ z => z⟩)
  · exact op_eqD hu pins s σ H x y v u Q I rx ry ⟨_, _, plain_dp h1 ra, plain_dp h2 rb, plain_shaped h1, plain_shaped h2, q H fun _ _ z => z⟩
theorem op_neT (hu : X.A.units + 64 < cLine) (hr : Room 8 X.A) (M : MethOk X.prog X.w X.K X.mg X.base C "__eq__" 1 (spRel X.K C false)) (h : OpR X (compareOp .NotEq) (rRel X.K C true)) : OpR X (compareOp .NotEq) (rEqv X.K C true) := by
  intro pins s σ H x y v u Q I rx ry hq
  obtain ⟨p0, G, a, b, fa, fb, r, pl, ra, rb, hc, e, q⟩ := hq
  unfold canC at hc
  rcases Bool.or_eq_true_iff.mp hc with hc | hc
  case inr => exact top_ne hr M I rx ry pl ra rb hc e q
  rcases Bool.or_eq_true_iff.mp hc with hc | hc
  case inr =>
    obtain ⟨rfl, p1, q1, rfl, r1, o1⟩ := oth_cases hc e ra rb
    exact h pins s σ H _ _ v u Q I rx ry (.inr ⟨p1, q1, rfl, r1, o1, q H fun _ _ z => z⟩)
  rcases can_cases hc e with ⟨p, q', rfl, rfl, rfl⟩ | ⟨h1, h2, rfl⟩
  · obtain ⟨p1, rfl, r1⟩ := rat_of ra
    obtain ⟨p2, rfl, r2⟩ := rat_of rb
    exact h pins s σ H _ _ v u Q I rx ry (.inl ⟨p1, p2, _, _, rfl, rfl, r1, r2, q H fun _ _ z => z⟩)
  · exact op_neD hu pins s σ H x y v u Q I rx ry ⟨_, _, plain_dp h1 ra, plain_dp h2 rb, plain_shaped h1, plain_shaped h2, q H fun _ _ z => z⟩
theorem op_inT (hu : X.A.units + 65 < cLine) (neg : Bool) : OpR X (compareOp (if neg then .NotIn else .In)) (rInv X.K C neg) := by
  intro pins s σ H x y v u Q I rx ry hq
  obtain ⟨p0, G, a, ds, fa, fb, r, pl, ra, rb, hc, e, q⟩ := hq
  unfold canIn at hc
  rw [Bool.and_eq_true] at hc
  have ea := anyEq_toP hc.1 ds hc.2 e
  have q := q H fun _ _ z => z
  subst ea
  obtain ⟨as, r1⟩ := Dp.reads I _ x v (plain_dp hc.1 ra) rx
  have sa := plain_shaped hc.1
  have lay := (plains_lay hc.2).1
  rcases rb with rb | ⟨o, rb⟩
  · obtain ⟨bs, r2⟩ := Dp.reads I _ y u (plain_dp (n := 40) (by unfold D.plain; exact hc.2) rb) ry
    rw [D.toP] at r2
    cases neg with
    | false => exact SeqAt.in_tuple_reads r2 r1 lay (SeqAt.canLay_of_shaped sa) (room_in_shaped sa hu) ⟨.bl _, H, I, rfl, q⟩
    | true => exact SeqAt.notIn_tuple_reads r2 r1 lay (SeqAt.canLay_of_shaped sa) (room_in_shaped sa hu) ⟨.bl _, H, I, rfl, q⟩
  · obtain ⟨bs, r2⟩ := Dp.reads I _ y u (plain_dp (n := 40) (by unfold D.plain; exact hc.2) rb) ry
    rw [D.toP] at r2
    cases neg with
    | false => exact SeqAt.in_list_reads r2 r1 lay (SeqAt.canLay_of_shaped sa) (room_in_shaped sa hu) ⟨.bl _, H, I, rfl, q⟩
    | true => exact SeqAt.notIn_list_reads r2 r1 lay (SeqAt.canLay_of_shaped sa) (room_in_shaped sa hu) ⟨.bl _, H, I, rfl, q⟩
end
end Mp

namespace Mp
open PySem PySem.Spec
open PyProof.Rows L2
section
variable {P : Program} {w : World} {K : PySem.W.Frag} {mg : Str → Option Value} {base : Heap} {C : Addr} {f : Addr} {fd : FuncData} {params : Arguments} {scope : Scope} {X : Cx}
variable {q1 q2 q3 q4 q5 q6 q7 q8 q9 q10 q11 q12 q13 q14 q15 q16 q17 q18 q19 q20 q21 q22 q23 q24 q25 q26 q27 q28 q29 q30 q31 q32 q33 q34 q35 q36 : Pos} {n1 n2 n3 n4 : Nat}
/-- a body's place: the names, the stores -/
structure At (X : Cx) (N : List Str) : Prop where
  nm : X.N = N
  nd : X.N.Nodup
  bd : Bd X
  calm : X.calm = true
  xe : X.xe = fun _ _ => False
theorem At.v {N : List Str} (a : At X N) {i : Nat} {x : Str} {p : Pos} (h : N[i]? = some x) (hv : visC X.env.scope x = true) (hp : plainN x = true := by decide +kernel) : PE X (.Name x p) (tVar i) := pe_var (by rw [a.nm]; exact h) (vis_by hv) (plain_by hp).1 (plain_by hp).2
theorem At.fld {N : List Str} (a : At X N) {i : Nat} {x n : Str} {p q : Pos} (h : N[i]? = some x) (hv : visC X.env.scope x = true) (hp : plainN x = true := by decide +kernel) : PE X (.Attribute (.Name x p) n q) (tFld X.K (tVar i) n) := pe_fld (a.v h hv hp) rfl
def t_gcd : TS := tSeq (tWhile (tTest (tOp rNe (tVar 1) (tC (.int 0)))) (tPar 0 1 (tCons (tVar 1) (tCons (tOp (rI (fun _ j => j ≠ 0) fun i j => .int (i.fmod j)) (tVar 0) (tVar 1)) tNil)))) (tRet (tCB (fun xs H Q => ∃ i, xs = [.int i] ∧ Q (.int (if i < 0 then -i else i)) H) (tCons (tVar 0) tNil)))
theorem gcd_walk (a : At X ["a", "b"]) (va : visC X.env.scope "a" = true) (vb : visC X.env.scope "b" = true) (hl : parC X.env.scope "a" "b" q4 q5 (.Name "b" q7) (.BinOp (.Name "a" q8) .Mod (.Name "b" q9) q10) = true) (hg : Gl X "abs") (hm : X.mg "abs" = none) :
    PSs X [.While (.Compare (.Name "b" q1) [.NotEq] [.Constant (.int 0) n1 q2] q3) [.Assign [.Tuple [.Name "a" q4, .Name "b" q5] n2 q6] (.Tuple [.Name "b" q7, .BinOp (.Name "a" q8) .Mod (.Name "b" q9) q10] n3 q11) q12] [] q13, .Return (some (.Call (.Name "abs" q14) [.Name "a" q15] [] q16)) q17] t_gcd := by
  obtain ⟨la, lb, hw⟩ := par_by (pt := q6) (pt2 := q11) (kt := n2) (k2 := n3) a.bd hl
  refine pss_cons (ps_while (by rw [a.xe]; exact PassesOwn.never) (pt_cmpR op_ne (a.v rfl vb) pe_int (nomark _)) (pss_one ?_)) (pss_one (ps_ret (pe_callB call_abs hg hm (by decide +kernel) (pa_cons (a.v rfl va) pa_nil))))
  exact ps_par a.calm a.nd (by rw [a.nm]; rfl) (by rw [a.nm]; rfl) (by decide) la lb (pa_cons (a.v rfl vb) (pa_cons (pe_op op_modN (a.v rfl va) (a.v rfl vb)) pa_nil)) hw
theorem gcd_pure {H : Hp} {D : Ends} {a b : Int} (h : D.rt (.int (Int.gcd a b : Int)) H) : t_gcd D [some (.int a), some (.int b)] H := by
  refine ⟨fun m σ H' => H' = H ∧ ∃ x y : Int, σ = [some (.int x), some (.int y)] ∧ Int.gcd x y = Int.gcd a b ∧ m = y.natAbs, ⟨b.natAbs, rfl, a, b, rfl, rfl, rfl⟩, ?_⟩
  rintro m σ H' ⟨rfl, x, y, rfl, hg, rfl⟩
  refine ⟨_, rfl, rfl, _, rfl, ?_⟩
  by_cases hy : y = 0
  · subst hy
    have e : decide (V.int 0 = V.int 0) = true := decide_eq_true rfl
    show (if (!decide (V.int 0 = V.int 0)) = true then _ else _)
    rw [e]
    refine ⟨_, rfl, x, rfl, ?_⟩
    have e2 : (if x < 0 then -x else x) = (Int.gcd a b : Int) := by
      rw [← hg, Int.gcd_zero_right]
      split <;> omega
    rw [e2]
    exact h
  · have e : decide (V.int y = V.int 0) = false := decide_eq_false fun z => hy (by cases z; rfl)
    show (if (!decide (V.int y = V.int 0)) = true then _ else _)
    rw [e]
    refine ⟨fun σ' H2 => H2 = H' ∧ σ' = [some (.int y), some (.int (x.fmod y))], fun σ' H2 z => ⟨(x.fmod y).natAbs, fmod_lt hy, z.1, y, x.fmod y, z.2, by rw [gcd_step, hg], rfl⟩, ?_⟩
    exact ⟨_, rfl, _, rfl, _, rfl, x, y, rfl, rfl, hy, _, _, rfl, rfl, rfl⟩
def spGcd : Sp := fun vs H Q _ => ∃ a b, vs = [.int a, .int b] ∧ Q (.int (Int.gcd a b : Int)) H
/-- the context at a def's body -/
theorem at_of {N ps : List Str} {qual : Str} {cdv : Value} {A : Around} {outer : List Env} {s : Shared} {H : Hp} {E : XK} (S : FnScope N ps scope) : At (cxOf CX0 P w K mg base N qual scope f cdv A outer s H E).nox N := ⟨rfl, S.nd, ⟨S.kind, fun _ => rfl⟩, rfl, rfl⟩
theorem ok_gcd (F : FunD K "greatest_divisor" "greatest_divisor" params [.While (.Compare (.Name "b" q1) [.NotEq] [.Constant (.int 0) n1 q2] q3) [.Assign [.Tuple [.Name "a" q4, .Name "b" q5] n2 q6] (.Tuple [.Name "b" q7, .BinOp (.Name "a" q8) .Mod (.Name "b" q9) q10] n3 q11) q12] [] q13, .Return (some (.Call (.Name "abs" q14) [.Name "a" q15] [] q16)) q17] scope [] [] f fd)
    (S : FnScope ["a", "b"] ["a", "b"] scope) (va : visC scope "a" = true) (vb : visC scope "b" = true) (hl : parC scope "a" "b" q4 q5 (.Name "b" q7) (.BinOp (.Name "a" q8) .Mod (.Name "b" q9) q10) = true) (hg : glC scope "abs" = true) (hm : mg "abs" = none) : FnOk P w K mg base CX0 1 f fd ["a", "b"] spGcd := by
  refine F.ok S (fun vs H Q E h => by obtain ⟨a, b, rfl, _⟩ := h; rfl) fun cdv A outer s H vs Q E hr h => ⟨_, PSs.nox (gcd_walk (at_of S) va vb hl (gl_by hg) hm), ?_⟩
  obtain ⟨a, b, rfl, h⟩ := h
  exact gcd_pure h
/-! ### Ratio(n, d) -/
def spInit (C : Addr) : Sp := fun vs H Q _ => ∃ x n d dx, vs = [.ref x, .int n, .int d] ∧ d ≠ 0 ∧ (d.natAbs.log2 < 9000 ∨ n = 1) ∧ H x = some (.ins C dx []) ∧ ∀ fs, Flds fs (Rat.divInt n d) → Q .non (upd H x (.ins C dx fs))
def t_init (K : PySem.W.Frag) : TS := tSeq (tIfS (tTest (tOp rEq (tVar 2) (tC (.int 0)))) tNever tNext) (tSeq (tAsg (tCall spGcd [] E0 (tCons (tVar 1) (tCons (tVar 2) tNil))) (gName 3)) (tSeq (tIfS (tTest (tOp (rI0 fun i j => .bl (decide (i < j))) (tVar 2) (tC (.int 0)))) (tAsg (tUn (rU fun i => .int (-i)) (tVar 3)) (gName 3)) tNext)
  (tSeq (sFld K (tVar 0) (tOp (rI (fun _ j => j ≠ 0 ∧ j.natAbs.log2 < 9000) fun i j => .int (i.fdiv j)) (tVar 1) (tVar 3)) "top") (sFld K (tVar 0) (tOp (rI (fun _ j => j ≠ 0 ∧ j.natAbs.log2 < 9000) fun i j => .int (i.fdiv j)) (tVar 2) (tVar 3)) "bottom"))))
theorem init_walk {st : Stmt} {p1 p2 p3 : Pos} {fg : Addr} {fdg : FuncData} (a : At X ["self", "n", "d", "divisor"]) (hv : ∀ x ∈ (["self", "n", "d", "divisor"] : List Str), visC X.env.scope x = true) (hl : locC X.env.scope "divisor" = true) (hg : glC X.env.scope "greatest_divisor" = true)
    (FG : FnOk X.prog X.w X.K X.mg X.base CX0 1 fg fdg ["a", "b"] spGcd) (hr : Room 1 X.A) (hm : X.mg "greatest_divisor" = some (.ref fg)) (hk : PySem.W.keepIn X.K (.ref fg) = true) (hb : Binds X.K fdg ["a", "b"] []) :
    PSs X [.If (.Compare (.Name "d" q1) [.Eq] [.Constant (.int 0) n1 q2] q3) [st] [] q4, .Assign [.Name "divisor" q5] (.Call (.Name "greatest_divisor" q6) [.Name "n" q7, .Name "d" q8] [] q9) q10,
    .If (.Compare (.Name "d" q11) [.Lt] [.Constant (.int 0) n2 q12] q13) [.Assign [.Name "divisor" q14] (.UnaryOp .USub (.Name "divisor" q15) q16) q17] [] q18,
    .Assign [.Attribute (.Name "self" q19) "top" q20] (.BinOp (.Name "n" q21) .FloorDiv (.Name "divisor" q22) q23) q24, .Assign [.Attribute (.Name "self" q25) "bottom" q26] (.BinOp (.Name "d" q27) .FloorDiv (.Name "divisor" p1) p2) p3] (t_init X.K) := by
  have vs := hv "self" (by decide +kernel)
  have vn := hv "n" (by decide +kernel)
  have vd := hv "d" (by decide +kernel)
  have vv := hv "divisor" (by decide +kernel)
  have pg : ∀ {p : Pos}, PG X (.Name "divisor" p) (gName 3) := pg_name a.nd (by rw [a.nm]; rfl) (loc_by hl) (.inl (a.bd.fn _))
  refine pss_cons (ps_if (pt_cmpR op_eq (a.v rfl vd) pe_int (nomark _)) (pss_one ps_never) pss_nil) (pss_cons (ps_asg (pe_call FG hr (gl_by hg) hm hk hb .nil pass0 (pa_cons (a.v rfl vn) (pa_cons (a.v rfl vd) pa_nil))) pg) (pss_cons (ps_if (pt_cmpR op_lt (a.v rfl vd) pe_int (nomark _)) (pss_one (ps_asg (pe_un un_neg (a.v rfl vv)) pg)) pss_nil) (pss_cons (ps_fld (a.v rfl vs) (pe_op op_fdivM (a.v rfl vn) (a.v rfl vv)) rfl) (pss_one (ps_fld (a.v rfl vs) (pe_op op_fdivM (a.v rfl vd) (a.v rfl vv)) rfl)))))
theorem init_pure {H : Hp} {D : Ends} {x dx : Addr} {n d : Int} (c : Cls K C) (nt : NoAttr K C "top") (nb : NoAttr K C "bottom") (hd : d ≠ 0) (hl : d.natAbs.log2 < 9000 ∨ n = 1) (hx : H x = some (.ins C dx [])) (h : ∀ fs σ, Flds fs (Rat.divInt n d) → D.nx σ (upd H x (.ins C dx fs))) : t_init K D [some (.ref x), some (.int n), some (.int d), none] H := by
  have e0 : decide (V.int d = V.int 0) = false := decide_eq_false fun z => hd (by cases z; rfl)
  have fin : ∀ σ : L2.St, σ = [some (.ref x), some (.int n), some (.int d), some (.int (dvr n d))] → tSeq (sFld K (tVar 0) (tOp (rI (fun _ j => j ≠ 0 ∧ j.natAbs.log2 < 9000) fun i j => .int (i.fdiv j)) (tVar 1) (tVar 3)) "top") (sFld K (tVar 0) (tOp (rI (fun _ j => j ≠ 0 ∧ j.natAbs.log2 < 9000) fun i j => .int (i.fdiv j)) (tVar 2) (tVar 3)) "bottom") D σ H := by
    rintro σ rfl
    have l0 := dvr_log' (n := n) hd hl
    have ne := dvr_ne (n := n) hd
    refine ⟨_, rfl, _, rfl, n, dvr n d, rfl, rfl, ⟨ne, l0⟩, _, rfl, x, C, dx, [], rfl, hx, c, nt, by decide, ?_⟩
    refine ⟨_, rfl, _, rfl, d, dvr n d, rfl, rfl, ⟨ne, l0⟩, _, rfl, x, C, dx, _, rfl, upd_same, c, nb, ?_, ?_⟩
    · have := length_putF "top" (V.int (n.fdiv (dvr n d))) []
      exact Nat.lt_of_le_of_lt this (by decide)
    · rw [upd_upd]
      refine h _ _ ⟨?_, ?_⟩
      · rw [lookup_putF, if_neg (by decide), lookup_putF, if_pos rfl]; exact congrArg (fun z => some (V.int z)) (dvr_num hd)
      · rw [lookup_putF, if_pos rfl]; exact congrArg (fun z => some (V.int z)) (dvr_den hd)
  refine ⟨_, rfl, ⟨rfl, _, rfl, ?_⟩⟩
  show (if decide (V.int d = V.int 0) = true then _ else _)
  rw [e0]
  refine ⟨_, rfl, _, rfl, n, d, rfl, ?_⟩
  refine ⟨_, rfl, d, 0, rfl, rfl, _, rfl, ?_⟩
  by_cases hd0 : d < 0
  · show (if decide (d < 0) = true then _ else _)
    rw [if_pos (decide_eq_true hd0)]
    refine ⟨_, rfl, _, rfl, ?_⟩
    refine fin _ ?_
    unfold dvr
    rw [if_pos hd0]
    rfl
  · show (if decide (d < 0) = true then _ else _)
    rw [if_neg (by simpa using hd0)]
    refine fin _ ?_
    unfold dvr
    rw [if_neg hd0]
    rfl
theorem ok_init {st : Stmt} {p1 p2 p3 : Pos} {fg : Addr} {fdg : FuncData} {dvs : List V} (F : FunD K "__init__" "Ratio.__init__" params [.If (.Compare (.Name "d" q1) [.Eq] [.Constant (.int 0) n1 q2] q3) [st] [] q4, .Assign [.Name "divisor" q5] (.Call (.Name "greatest_divisor" q6) [.Name "n" q7, .Name "d" q8] [] q9) q10,
    .If (.Compare (.Name "d" q11) [.Lt] [.Constant (.int 0) n2 q12] q13) [.Assign [.Name "divisor" q14] (.UnaryOp .USub (.Name "divisor" q15) q16) q17] [] q18,
    .Assign [.Attribute (.Name "self" q19) "top" q20] (.BinOp (.Name "n" q21) .FloorDiv (.Name "divisor" q22) q23) q24, .Assign [.Attribute (.Name "self" q25) "bottom" q26] (.BinOp (.Name "d" q27) .FloorDiv (.Name "divisor" p1) p2) p3] scope dvs [] f fd)
    (S : FnScope ["self", "n", "d", "divisor"] ["self", "n", "d"] scope) (hv : ∀ x ∈ (["self", "n", "d", "divisor"] : List Str), visC scope x = true) (hl : locC scope "divisor" = true) (hg : glC scope "greatest_divisor" = true)
    (FG : FnOk P w K mg base CX0 1 fg fdg ["a", "b"] spGcd) (hm : mg "greatest_divisor" = some (.ref fg)) (hk : PySem.W.keepIn K (.ref fg) = true) (hb : Binds K fdg ["a", "b"] []) (c : Cls K C) (nt : NoAttr K C "top") (nb : NoAttr K C "bottom") : FnOk P w K mg base CX0 2 f fd ["self", "n", "d"] (spInit C) := by
  refine F.ok S (fun vs H Q E h => by obtain ⟨x, n, d, dx, rfl, _⟩ := h; rfl) fun cdv A outer s H vs Q E hr h => ⟨_, PSs.nox (init_walk (at_of S) hv hl hg FG hr hm hk hb), ?_⟩
  obtain ⟨x, n, d, dx, rfl, hd, hlog, hx, hq⟩ := h
  exact init_pure c nt nb hd hlog hx fun fs σ q => hq fs q
/-- what making a Ratio needs -/
structure RMk (P : Program) (w : World) (K : PySem.W.Frag) (mg : Str → Option Value) (base : Heap) (C : Addr) : Prop where
  ex : ∃ (fi : Addr) (fd : FuncData) (ds : List Value), Mk K C fi ∧ FnOk P w K mg base CX0 2 fi fd ["self", "n", "d"] (spInit C) ∧ Binds K fd ["self", "n", "d"] [] ∧ Binds K fd ["self", "n", "d"] ds ∧ Vals [V.int 1] ds
  gR : mg "Ratio" = some (.ref C)
theorem ex_made {H : Hp} {x dx : Addr} {o o' : HO} (hx : H x = none) (hdx : H dx = none) : Ex H (upd (upd H dx o) x o') := fun p u e => by
  rw [upd_ne (ne_of_none e hx), upd_ne (ne_of_none e hdx)]
  exact e
theorem mkR_of (M : RMk X.prog X.w X.K X.mg X.base C) (hr : Room 3 X.A) {e : Expr} {es : List Expr} {t : TA} {p pos : Pos} (ha : PA X (e :: es) t) (hg : Gl X "Ratio") (he : starEach (e :: es) X.env = (false, eval e X.env) :: starEach es X.env) (hpl : (backTo pos (starEach es X.env)).any (·.1) = false) :
    PE X (.Call (.Name "Ratio" p) (e :: es) [] pos) (fun σ H Q => t σ H fun vs H1 => rMk C vs H1 Q) := by
  obtain ⟨fi, fd, ds, mk, F, b0, b1, hd⟩ := M.ex
  refine ⟨fun pins s σ H Q I h => ?_⟩
  refine wpAny_Call_Name_kw (ld_glob I hg M.gR ?_ (by decide +kernel))
  refine PySem.W.callWith_K (h₀ := X.base) I.ok.mod.kin mk.kp (thn (ha.run pos pins s σ H _ I h) fun us s1 ⟨vs, H1, I1, r, q⟩ => ⟨I1.kIn, ?_⟩) he hpl
  obtain ⟨_, d, ⟨_, rfl, q⟩ | ⟨e', rfl, hd0, hl, q⟩⟩ := q
  · refine run_make (dvs := [V.int 1]) (E := E0) mk F hr b1 hd pass0 I1 r fun x dx hx hdx ne => ⟨x, d, 1, dx, rfl, by decide, .inl (by decide), upd_same, fun fs hf => ⟨rfl, q x _ (fun a u z => ?_) ⟨dx, fs, upd_same, ?_⟩⟩⟩
    · rw [upd_upd]
      exact ex_made hx hdx a u z
    · have e1 : Rat.divInt d 1 = (d : Rat) := by have := Rat.num_divInt_den (d : Rat); rwa [Rat.num_intCast, Rat.den_intCast] at this
      rw [e1] at hf
      exact hf
  · refine run_make (dvs := []) (ds := []) (E := E0) mk F hr b0 .nil pass0 I1 r fun x dx hx hdx ne => ⟨x, d, e', dx, rfl, hd0, hl, upd_same, fun fs hf => ⟨rfl, q x _ (fun a u z => ?_) ⟨dx, fs, upd_same, hf⟩⟩⟩
    rw [upd_upd]
    exact ex_made hx hdx a u z
end
end Mp

namespace Mp
open PySem PySem.Spec
open PyProof.Rows L2
section
variable {P : Program} {w : World} {K : PySem.W.Frag} {mg : Str → Option Value} {base : Heap} {C : Addr} {f : Addr} {fd : FuncData} {params : Arguments} {scope : Scope} {X : Cx}
variable {q1 q2 q3 q4 q5 q6 q7 q8 q9 q10 q11 q12 q13 q14 q15 q16 q17 q18 q19 q20 q21 q22 q23 q24 q25 q26 q27 q28 q29 q30 q31 q32 q33 q34 q35 q36 : Pos} {n1 n2 n3 n4 : Nat}
/-- what the class gives to all its methods -/
structure Rc (K : PySem.W.Frag) (C : Addr) : Prop where
  cls : Cls K C
  isO : PySem.W.findIn K (.ref C) "__class__" = some (some (.builtin "object.__class__")) ∧ PySem.W.specialIn K (.builtin "object.__class__") "__get__" = some (some (.builtin "getset_descriptor.__get__")) ∧ PySem.W.takesIn K (.builtin "object.__class__") = some true ∧ PySem.W.mroIn K C (.type "object") = some true
  nt : NoAttr K C "top"
  nb : NoAttr K C "bottom"
theorem fld_top {K : PySem.W.Frag} (c : Rc K C) {H : Hp} {a : Addr} {q : Rat} {i : Nat} {σ : L2.St} {Q : VK} (h : RatAt C H a q) (hi : σ[i]? = some (some (.ref a))) (hq : Q (.int q.num) H) : tFld K (tVar i) "top" σ H Q := by
  obtain ⟨dx, fs, h1, h2, h3⟩ := h
  exact ⟨_, hi, a, C, dx, fs, _, rfl, h1, c.cls, c.nt, h2, hq⟩
theorem fld_bot {K : PySem.W.Frag} (c : Rc K C) {H : Hp} {a : Addr} {q : Rat} {i : Nat} {σ : L2.St} {Q : VK} (h : RatAt C H a q) (hi : σ[i]? = some (some (.ref a))) (hq : Q (.int q.den) H) : tFld K (tVar i) "bottom" σ H Q := by
  obtain ⟨dx, fs, h1, h2, h3⟩ := h
  exact ⟨_, hi, a, C, dx, fs, _, rfl, h1, c.cls, c.nb, h3, hq⟩
abbrev two : List Str := ["self", "other"]
structure Sc2 (scope : Scope) : Prop where
  S : FnScope two two scope
  vs : visC scope "self" = true
  vo : visC scope "other" = true
  gr : glC scope "Ratio" = true
theorem ok_add (M : RMk P w K mg base C) (c : Rc K C) (F : FunD K "__add__" "Ratio.__add__" params [.Return (some (.Call (.Name "Ratio" q1) [.BinOp (.BinOp (.Attribute (.Name "self" q2) "top" q3) .Mult (.Attribute (.Name "other" q4) "bottom" q5) q6) .Add (.BinOp (.Attribute (.Name "other" q7) "top" q8) .Mult (.Attribute (.Name "self" q9) "bottom" q10) q11) q12, .BinOp (.Attribute (.Name "self" q13) "bottom" q14) .Mult (.Attribute (.Name "other" q15) "bottom" q16) q17] [] q18)) q19] scope [] [] f fd)
    (Z : Sc2 scope) : FnOk P w K mg base CX0 4 f fd two (spBin C fun a b => a + b) := by
  refine F.ok Z.S (fun vs H Q E h => by obtain ⟨p, q, a, b, rfl, _⟩ := h; rfl) fun cdv A outer s H vs Q E hr h => ?_
  have a := at_of (P := P) (w := w) (K := K) (mg := mg) (base := base) (f := f) (qual := "Ratio.__add__") (cdv := cdv) (A := A) (outer := outer) (s := s) (H := H) (E := E) Z.S
  have FS := fun {n : Str} {p q : Pos} => a.fld (i := 0) (x := "self") (n := n) (p := p) (q := q) rfl Z.vs
  have FO := fun {n : Str} {p q : Pos} => a.fld (i := 1) (x := "other") (n := n) (p := p) (q := q) rfl Z.vo
  refine ⟨_, PSs.nox (pss_one (ps_ret (mkR_of M hr (pa_cons (pe_op op_add (pe_op op_mulM FS FO) (pe_op op_mulM FO FS)) (pa_cons (pe_op op_mulM FS FO) pa_nil)) (gl_by Z.gr) rfl rfl))), ?_⟩
  obtain ⟨p, q, x, y, rfl, ⟨dx, fs, x1, x2, x3⟩, ⟨dy, gs, y1, y2, y3⟩, sx, sy, hq⟩ := h
  refine ⟨_, rfl, p, C, dx, fs, _, rfl, x1, c.cls, c.nt, x2, ?_⟩
  refine ⟨_, rfl, q, C, dy, gs, _, rfl, y1, c.cls, c.nb, y3, ?_⟩
  refine ⟨_, _, rfl, rfl, sm_mul sx.num (by simpa using sy.den), ?_⟩
  refine ⟨_, rfl, q, C, dy, gs, _, rfl, y1, c.cls, c.nt, y2, ?_⟩
  refine ⟨_, rfl, p, C, dx, fs, _, rfl, x1, c.cls, c.nb, x3, ?_⟩
  refine ⟨_, _, rfl, rfl, sm_mul sy.num (by simpa using sx.den), _, _, rfl, rfl, ?_⟩
  refine ⟨_, rfl, p, C, dx, fs, _, rfl, x1, c.cls, c.nb, x3, ?_⟩
  refine ⟨_, rfl, q, C, dy, gs, _, rfl, y1, c.cls, c.nb, y3, ?_⟩
  refine ⟨_, _, rfl, rfl, sm_mul (by simpa using sx.den) (by simpa using sy.den), ?_⟩
  refine ⟨[], _, .inr ⟨_, rfl, rat_den_ne, .inl (sm_log sx sy), fun r H' e hr' => hq r H' e ?_⟩⟩
  rw [rat_addE] at hr'
  exact hr'
theorem ok_sub (M : RMk P w K mg base C) (c : Rc K C) (F : FunD K "__sub__" "Ratio.__sub__" params [.Return (some (.Call (.Name "Ratio" q1) [.BinOp (.BinOp (.Attribute (.Name "self" q2) "top" q3) .Mult (.Attribute (.Name "other" q4) "bottom" q5) q6) .Sub (.BinOp (.Attribute (.Name "other" q7) "top" q8) .Mult (.Attribute (.Name "self" q9) "bottom" q10) q11) q12, .BinOp (.Attribute (.Name "self" q13) "bottom" q14) .Mult (.Attribute (.Name "other" q15) "bottom" q16) q17] [] q18)) q19] scope [] [] f fd)
    (Z : Sc2 scope) : FnOk P w K mg base CX0 4 f fd two (spBin C fun a b => a - b) := by
  refine F.ok Z.S (fun vs H Q E h => by obtain ⟨p, q, a, b, rfl, _⟩ := h; rfl) fun cdv A outer s H vs Q E hr h => ?_
  have a := at_of (P := P) (w := w) (K := K) (mg := mg) (base := base) (f := f) (qual := "Ratio.__sub__") (cdv := cdv) (A := A) (outer := outer) (s := s) (H := H) (E := E) Z.S
  have FS := fun {n : Str} {p q : Pos} => a.fld (i := 0) (x := "self") (n := n) (p := p) (q := q) rfl Z.vs
  have FO := fun {n : Str} {p q : Pos} => a.fld (i := 1) (x := "other") (n := n) (p := p) (q := q) rfl Z.vo
  refine ⟨_, PSs.nox (pss_one (ps_ret (mkR_of M hr (pa_cons (pe_op op_sub (pe_op op_mulM FS FO) (pe_op op_mulM FO FS)) (pa_cons (pe_op op_mulM FS FO) pa_nil)) (gl_by Z.gr) rfl rfl))), ?_⟩
  obtain ⟨p, q, x, y, rfl, ⟨dx, fs, x1, x2, x3⟩, ⟨dy, gs, y1, y2, y3⟩, sx, sy, hq⟩ := h
  refine ⟨_, rfl, p, C, dx, fs, _, rfl, x1, c.cls, c.nt, x2, ?_⟩
  refine ⟨_, rfl, q, C, dy, gs, _, rfl, y1, c.cls, c.nb, y3, ?_⟩
  refine ⟨_, _, rfl, rfl, sm_mul sx.num (by simpa using sy.den), ?_⟩
  refine ⟨_, rfl, q, C, dy, gs, _, rfl, y1, c.cls, c.nt, y2, ?_⟩
  refine ⟨_, rfl, p, C, dx, fs, _, rfl, x1, c.cls, c.nb, x3, ?_⟩
  refine ⟨_, _, rfl, rfl, sm_mul sy.num (by simpa using sx.den), _, _, rfl, rfl, ?_⟩
  refine ⟨_, rfl, p, C, dx, fs, _, rfl, x1, c.cls, c.nb, x3, ?_⟩
  refine ⟨_, rfl, q, C, dy, gs, _, rfl, y1, c.cls, c.nb, y3, ?_⟩
  refine ⟨_, _, rfl, rfl, sm_mul (by simpa using sx.den) (by simpa using sy.den), ?_⟩
  refine ⟨[], _, .inr ⟨_, rfl, rat_den_ne, .inl (sm_log sx sy), fun r H' e hr' => hq r H' e ?_⟩⟩
  rw [rat_subE] at hr'
  exact hr'
theorem ok_mul (M : RMk P w K mg base C) (c : Rc K C) (F : FunD K "__mul__" "Ratio.__mul__" params [.Return (some (.Call (.Name "Ratio" q1) [.BinOp (.Attribute (.Name "self" q2) "top" q3) .Mult (.Attribute (.Name "other" q4) "top" q5) q6, .BinOp (.Attribute (.Name "self" q13) "bottom" q14) .Mult (.Attribute (.Name "other" q15) "bottom" q16) q17] [] q18)) q19] scope [] [] f fd)
    (Z : Sc2 scope) : FnOk P w K mg base CX0 4 f fd two (spBin C fun a b => a * b) := by
  refine F.ok Z.S (fun vs H Q E h => by obtain ⟨p, q, a, b, rfl, _⟩ := h; rfl) fun cdv A outer s H vs Q E hr h => ?_
  have a := at_of (P := P) (w := w) (K := K) (mg := mg) (base := base) (f := f) (qual := "Ratio.__mul__") (cdv := cdv) (A := A) (outer := outer) (s := s) (H := H) (E := E) Z.S
  have FS := fun {n : Str} {p q : Pos} => a.fld (i := 0) (x := "self") (n := n) (p := p) (q := q) rfl Z.vs
  have FO := fun {n : Str} {p q : Pos} => a.fld (i := 1) (x := "other") (n := n) (p := p) (q := q) rfl Z.vo
  refine ⟨_, PSs.nox (pss_one (ps_ret (mkR_of M hr (pa_cons (pe_op op_mulM FS FO) (pa_cons (pe_op op_mulM FS FO) pa_nil)) (gl_by Z.gr) rfl rfl))), ?_⟩
  obtain ⟨p, q, x, y, rfl, ⟨dx, fs, x1, x2, x3⟩, ⟨dy, gs, y1, y2, y3⟩, sx, sy, hq⟩ := h
  refine ⟨_, rfl, p, C, dx, fs, _, rfl, x1, c.cls, c.nt, x2, ?_⟩
  refine ⟨_, rfl, q, C, dy, gs, _, rfl, y1, c.cls, c.nt, y2, ?_⟩
  refine ⟨_, _, rfl, rfl, sm_mul sx.num sy.num, ?_⟩
  refine ⟨_, rfl, p, C, dx, fs, _, rfl, x1, c.cls, c.nb, x3, ?_⟩
  refine ⟨_, rfl, q, C, dy, gs, _, rfl, y1, c.cls, c.nb, y3, ?_⟩
  refine ⟨_, _, rfl, rfl, sm_mul (by simpa using sx.den) (by simpa using sy.den), ?_⟩
  refine ⟨[], _, .inr ⟨_, rfl, rat_den_ne, .inl (sm_log sx sy), fun r H' e hr' => hq r H' e ?_⟩⟩
  rw [rat_mulE] at hr'
  exact hr'
abbrev one : List Str := ["self"]
theorem ok_neg (M : RMk P w K mg base C) (c : Rc K C) (F : FunD K "__neg__" "Ratio.__neg__" params [.Return (some (.Call (.Name "Ratio" q1) [.UnaryOp .USub (.Attribute (.Name "self" q2) "top" q3) q4, .Attribute (.Name "self" q5) "bottom" q6] [] q7)) q8] scope [] [] f fd)
    (S : FnScope one one scope) (vs : visC scope "self" = true) (gr : glC scope "Ratio" = true) : FnOk P w K mg base CX0 4 f fd one (spNeg C) := by
  refine F.ok S (fun vs H Q E h => by obtain ⟨p, a, rfl, _⟩ := h; rfl) fun cdv A outer s H vs' Q E hr h => ?_
  have a := at_of (P := P) (w := w) (K := K) (mg := mg) (base := base) (f := f) (qual := "Ratio.__neg__") (cdv := cdv) (A := A) (outer := outer) (s := s) (H := H) (E := E) S
  have FS := fun {n : Str} {p q : Pos} => a.fld (i := 0) (x := "self") (n := n) (p := p) (q := q) rfl vs
  refine ⟨_, PSs.nox (pss_one (ps_ret (mkR_of M hr (pa_cons (pe_un un_neg FS) (pa_cons FS pa_nil)) (gl_by gr) rfl rfl))), ?_⟩
  obtain ⟨p, x, rfl, ⟨dx, fs, x1, x2, x3⟩, sx, hq⟩ := h
  refine ⟨_, rfl, p, C, dx, fs, _, rfl, x1, c.cls, c.nt, x2, ?_⟩
  refine ⟨_, rfl, ?_⟩
  refine ⟨_, rfl, p, C, dx, fs, _, rfl, x1, c.cls, c.nb, x3, ?_⟩
  refine ⟨[], _, .inr ⟨_, rfl, by have := x.den_nz; omega, ?_, fun r H' e hr' => hq r H' e ?_⟩⟩
  · rw [Int.natAbs_natCast]
    have := log_bit sx.den
    omega
  · rw [rat_negE] at hr'
    exact hr'
/-! ### ==, != -/
theorem ok_eq (c : Rc K C) (isC : PySem.W.kitOne K (.ref C) (.ref C) = some true) (isT : ∀ T ∈ ["NoneType", "bool", "int", "str", "list", "tuple"], PySem.W.kitOne K (.type T) (.ref C) = some false) (gR : mg "Ratio" = some (.ref C)) (gi : mg "isinstance" = none) (F : FunD K "__eq__" "Ratio.__eq__" params [.Return (some (.BoolOp .And [.Call (.Name "isinstance" q1) [.Name "other" q2, .Name "Ratio" q3] [] q4, .Compare (.Attribute (.Name "self" q5) "top" q6) [.Eq] [.Attribute (.Name "other" q7) "top" q8] q9, .Compare (.Attribute (.Name "self" q10) "bottom" q11) [.Eq] [.Attribute (.Name "other" q12) "bottom" q13] q14] q15)) q16] scope [] [] f fd)
    (Z : Sc2 scope) (gl : glC scope "isinstance" = true) : FnOk P w K mg base CX0 1 f fd two (spRel K C false) := by
  refine F.ok Z.S (fun vs H Q E h => by rcases h with ⟨p, q, a, b, rfl, _⟩ | ⟨p, y, a, rfl, _⟩ <;> rfl) fun cdv A outer s H vs Q E hr h => ?_
  have a := at_of (P := P) (w := w) (K := K) (mg := mg) (base := base) (f := f) (qual := "Ratio.__eq__") (cdv := cdv) (A := A) (outer := outer) (s := s) (H := H) (E := E) Z.S
  have FS := fun {n : Str} {p q : Pos} => a.fld (i := 0) (x := "self") (n := n) (p := p) (q := q) rfl Z.vs
  have FO := fun {n : Str} {p q : Pos} => a.fld (i := 1) (x := "other") (n := n) (p := p) (q := q) rfl Z.vo
  refine ⟨_, PSs.nox (pss_one (ps_ret (pe_and (pe_callB call_isi (gl_by gl) gi (by decide +kernel) (pa_cons (a.v (i := 1) rfl Z.vo) (pa_cons (pe_glob (v := .ref C) (gl_by Z.gr) gR rfl) pa_nil))) (pe_and (pe_cmpR op_eq FS FO (nomark _)) (pe_one (pe_cmpR op_eq FS FO (nomark _))))))), ?_⟩
  rcases h with ⟨p, q, x, y, rfl, ⟨dx, fs, x1, x2, x3⟩, ⟨dy, gs, y1, y2, y3⟩, hq⟩ | ⟨p, y, x, rfl, ⟨dx, fs, x1, x2, x3⟩, ⟨T, hT, tb, tx⟩, hq⟩
  case inr =>
    refine ⟨_, rfl, _, _, _, _, false, rfl, .own C, tx, isT T hT, _, rfl, ?_⟩
    show (if false = true then _ else _)
    rw [if_neg (by decide)]
    exact hq
  refine ⟨_, rfl, _, _, _, _, true, rfl, .own C, ?_, isC, _, rfl, ?_⟩
  · exact .base (.ins y1 c.cls c.isO.1 c.isO.2.1 c.isO.2.2.1 c.isO.2.2.2)
  · show (if true = true then _ else _)
    rw [if_pos rfl]
    refine ⟨_, rfl, p, C, dx, fs, _, rfl, x1, c.cls, c.nt, x2, ?_⟩
    refine ⟨_, rfl, q, C, dy, gs, _, rfl, y1, c.cls, c.nt, y2, ?_⟩
    refine ⟨rfl, _, rfl, ?_⟩
    have e := rat_eqE x y
    have e1 : decide (V.int x.num = V.int y.num) = decide (x.num = y.num) := by rw [dec_int]; rfl
    have e2 : decide (V.int (x.den : Int) = V.int (y.den : Int)) = decide ((x.den : Int) = (y.den : Int)) := by rw [dec_int]; rfl
    show (if decide (V.int x.num = V.int y.num) = true then _ else _)
    rw [e1]
    have hq' : Q (.bl (x == y)) H := hq
    rw [← e] at hq'
    by_cases h1 : x.num = y.num
    · rw [if_pos (decide_eq_true h1)] at hq' ⊢
      refine ⟨_, rfl, p, C, dx, fs, _, rfl, x1, c.cls, c.nb, x3, ?_⟩
      refine ⟨_, rfl, q, C, dy, gs, _, rfl, y1, c.cls, c.nb, y3, ?_⟩
      refine ⟨rfl, ?_⟩
      show Q (.bl (decide (V.int (x.den : Int) = V.int (y.den : Int)))) H
      rw [e2]
      exact hq'
    · rw [if_neg (by simpa using h1)] at hq' ⊢
      exact hq'
theorem ok_ne {k : Nat} (hk : k ≤ 1) (F : FunD K "__ne__" "Ratio.__ne__" params [.Return (some (.UnaryOp .Not (.Compare (.Name "self" q1) [.Eq] [.Name "other" q2] q3) q4)) q5] scope [] [] f fd)
    (M : MethOk P w K mg base C "__eq__" k (spRel K C false)) (S : FnScope two two scope) (vs : visC scope "self" = true) (vo : visC scope "other" = true) : FnOk P w K mg base CX0 2 f fd two (spRel K C true) := by
  refine F.ok S (fun vs H Q E h => by rcases h with ⟨p, q, a, b, rfl, _⟩ | ⟨p, y, a, rfl, _⟩ <;> rfl) fun cdv A outer s H vs' Q E hr h => ?_
  have a := at_of (P := P) (w := w) (K := K) (mg := mg) (base := base) (f := f) (qual := "Ratio.__ne__") (cdv := cdv) (A := A) (outer := outer) (s := s) (H := H) (E := E) S
  refine ⟨_, PSs.nox (pss_one (ps_ret (pe_notT (pe_cmpR (cmp_own (neg := false) (fun _ _ => rfl) M (hr.mono hk)) (a.v (i := 0) rfl vs) (a.v (i := 1) rfl vo) (nomark _))))), ?_⟩
  rcases h with ⟨p, q, x, y, rfl, hx, hy, hq⟩ | ⟨p, y, x, rfl, hx, ot, hq⟩
  · exact ⟨_, rfl, _, rfl, .inl ⟨p, q, x, y, rfl, rfl, hx, hy, (x == y), rfl, hq⟩⟩
  · exact ⟨_, rfl, _, rfl, .inr ⟨p, x, rfl, hx, ot, false, rfl, hq⟩⟩
end
end Mp

namespace Mp
open PySem PySem.Spec
open PyProof.Rows L2
/-- what the head tells of the class -/
structure Rt (P : Program) (w : World) (K : PySem.W.Frag) (mg : Str → Option Value) (base : Heap) (C : Addr) (Gs : String → Option Int) : Prop where
  free : ∀ x ∈ blt, mg x = none
  gl : ∀ x i, Gs x = some i → ∃ t, mg (Str.ofString x) = some (.int i t)
  rc : Rc K C
  isT : ∀ T ∈ ["NoneType", "bool", "int", "str", "list", "tuple"], PySem.W.kitOne K (.type T) (.ref C) = some false
  isC : PySem.W.kitOne K (.ref C) (.ref C) = some true
  isB : ∀ T ∈ ["bool", "int", "str", "list", "tuple"], PySem.W.kitOne K (.ref C) (.type T) = some false
  first : PySem.W.selfFirst K C = true
  rmk : RMk P w K mg base C
  add : MethOk P w K mg base C "__add__" 4 (spBin C fun a b => a + b)
  sub : MethOk P w K mg base C "__sub__" 4 (spBin C fun a b => a - b)
  mul : MethOk P w K mg base C "__mul__" 4 (spBin C fun a b => a * b)
  neg : MethOk P w K mg base C "__neg__" 4 (spNeg C)
  eq : MethOk P w K mg base C "__eq__" 1 (spRel K C false)
  ne : MethOk P w K mg base C "__ne__" 2 (spRel K C true)
theorem room_units {A : Around} (h : Room BASE A) : A.units + 65 < cLine := by
  have := h.un
  unfold BASE at this
  omega
theorem wd_of {P : Program} {w : World} {K : PySem.W.Frag} {mg : Str → Option Value} {base : Heap} {C : Addr} {Γ : String → Option MDef} {Gs : String → Option Int} (r : Rt P w K mg base C Gs) (k : Nat) (h : FnAt P w K mg base C Γ k) : Wd P w K mg base C Γ Gs k where
  free := r.free
  gl := r.gl
  gR := r.rmk.gR
  cls := r.rc.cls
  ntop := r.rc.nt
  nbot := r.rc.nb
  isT := r.isT
  isC := r.isC
  isB := r.isB
  isO := r.rc.isO
  add := fun X ⟨h1, h2, h3, h4, h5⟩ hr => by subst h1 h2 h3 h4 h5; exact op_own (op := .Add) r.add (hr.mono (by decide)) r.first
  sub := fun X ⟨h1, h2, h3, h4, h5⟩ hr => by subst h1 h2 h3 h4 h5; exact op_own (op := .Sub) r.sub (hr.mono (by decide)) r.first
  mul := fun X ⟨h1, h2, h3, h4, h5⟩ hr => by subst h1 h2 h3 h4 h5; exact op_own (op := .Mult) r.mul (hr.mono (by decide)) r.first
  neg := fun X ⟨h1, h2, h3, h4, h5⟩ hr => by subst h1 h2 h3 h4 h5; exact neg_own r.neg (hr.mono (by decide))
  eq := fun X ⟨h1, h2, h3, h4, h5⟩ hr => by subst h1 h2 h3 h4 h5; exact op_eqT (by have := room_units hr; omega) (hr.mono (by decide)) r.eq (cmp_own (op := .Eq) (fun _ _ => rfl) r.eq (hr.mono (by decide)))
  ne := fun X ⟨h1, h2, h3, h4, h5⟩ hr => by subst h1 h2 h3 h4 h5; exact op_neT (by have := room_units hr; omega) (hr.mono (by decide)) r.eq (cmp_own (op := .NotEq) (fun _ _ => rfl) r.ne (hr.mono (by decide)))
  inn := fun X ⟨h1, h2, h3, h4, h5⟩ hr => by subst h1 h2 h3 h4 h5; exact op_inT (room_units hr) false
  nin := fun X ⟨h1, h2, h3, h4, h5⟩ hr => by subst h1 h2 h3 h4 h5; exact op_inT (room_units hr) true
  mkR := fun X ⟨h1, h2, h3, h4, h5⟩ hr e es t p pos ha hg he hpl => by subst h1 h2 h3 h4 h5; exact mkR_of r.rmk (hr.mono (by decide)) ha hg he hpl
  fn := h
end Mp

namespace Mp
open PySem PySem.Spec
open PyProof.Rows L2
/-! ### the head's facts, one Bool more -/
def hookQ (n : Nat) (fa : List He.Fa) (fn : List He.DefD) (ex : PySem.W.Frag → Bool) : PySem.W.Hook where
  α := He.AlD × Bool
  obs := fun s => (He.obsDG n fa fn s.heap.get?, ex (He.frG s.heap.get? (He.asD s.heap.get? n)))
  val := fun _ => (He.valD fn, true)
  says := fun _ h => ∃ K : PySem.W.Frag, K.In h ∧ He.SaysD fa fn K ∧ ex K = true
  of := fun _ _ e => ⟨_, He.frG_in, congrArg Prod.fst e, congrArg Prod.snd e⟩
  keeps := fun _ _ _ ⟨K, hK, c⟩ k => ⟨K, PySem.W.Frag.In.keeps hK k, c⟩
theorem hookQ_eq {n : Nat} {fa : List He.Fa} {fn : List He.DefD} {ex : PySem.W.Frag → Bool} {g : Addr → Option Obj} {s : Shared} (h : ∀ a, g a = s.heap.get? a) : ((He.obsDG n fa fn g, ex (He.frG g (He.asD g n))) : He.AlD × Bool) = (hookQ n fa fn ex).obs s := by
  have e : g = s.heap.get? := funext h
  rw [e] <;> rfl
theorem says_fact {fa : List He.Fa} {fn : List He.DefD} {K : PySem.W.Frag} (c : He.SaysD fa fn K) {f : He.Fa} (h : f ∈ fa) : f.ok K = true := by
  obtain ⟨i, hi, e⟩ := List.mem_iff_getElem.mp h
  exact c.fact i (f := f) (by rw [List.getElem?_eq_getElem hi, e])
theorem says_def {fa : List He.Fa} {fn : List He.DefD} {K : PySem.W.Frag} (c : He.SaysD fa fn K) {d : He.DefD} (h : d ∈ fn) : ∃ fd, FunD K d.name d.qual d.params d.body d.scope (d.dvs K) (d.kws K) (He.fAd K d.at_) fd := by
  obtain ⟨i, hi, e⟩ := List.mem_iff_getElem.mp h
  exact c.def_ i (d := d) (by rw [List.getElem?_eq_getElem hi, e])
/-- what is looked at beside -/
def exR (K : PySem.W.Frag) : Bool :=
  let C := He.ga K "Ratio"
  (decide (PySem.W.findIn K (.ref C) "__class__" = some (some (.builtin "object.__class__"))) && (decide (PySem.W.specialIn K (.builtin "object.__class__") "__get__" = some (some (.builtin "getset_descriptor.__get__"))) &&
    (decide (PySem.W.takesIn K (.builtin "object.__class__") = some true) && decide (PySem.W.mroIn K C (.type "object") = some true)))) &&
  ((["NoneType", "bool", "int", "str", "list", "tuple"].all fun T => decide (PySem.W.kitOne K (.type T) (.ref C) = some false)) && (decide (PySem.W.kitOne K (.ref C) (.ref C) = some true) &&
    ((["bool", "int", "str", "list", "tuple"].all fun T => decide (PySem.W.kitOne K (.ref C) (.type T) = some false)) && PySem.W.selfFirst K C)))
/-- the facts that every law asks for -/
def faR : List He.Fa := blt.map He.Fa.free ++ [.glo "Ratio", .glo "greatest_divisor", .cls "Ratio", .noat "Ratio" "top", .noat "Ratio" "bottom", .mkr "Ratio", .meth "Ratio" "__add__", .meth "Ratio" "__sub__", .meth "Ratio" "__mul__", .meth "Ratio" "__neg__", .meth "Ratio" "__eq__", .meth "Ratio" "__ne__"]
def dMod (x : String) (st : Stmt) : He.DefD := ⟨(Str.ofString x, none), Str.ofString x, Str.ofString x, defArgs st, defBody st, defScope st, [], []⟩
def dMet (m q : String) (st : Stmt) (dfl : List He.Dv) : He.DefD := ⟨("Ratio", some (Str.ofString m)), Str.ofString m, Str.ofString q, defArgs st, defBody st, defScope st, dfl, []⟩
def clsBody : Stmt → List Stmt
  | .ClassDef _ _ _ b _ _ _ _ _ _ _ => b
  | _ => []
def kid (st : Stmt) (i : Nat) : Stmt := (clsBody st).getD i (.Pass ⟨0, 0, 0, 0⟩)
def fnR (g c : Stmt) : List He.DefD := [dMod "greatest_divisor" g, dMet "__init__" "Ratio.__init__" (kid c 0) [.int 1], dMet "__eq__" "Ratio.__eq__" (kid c 1) [], dMet "__ne__" "Ratio.__ne__" (kid c 2) [], dMet "__add__" "Ratio.__add__" (kid c 3) [], dMet "__sub__" "Ratio.__sub__" (kid c 4) [], dMet "__mul__" "Ratio.__mul__" (kid c 5) [], dMet "__neg__" "Ratio.__neg__" (kid c 6) []]
/-- a def's scope, looked at -/
def scQ (N P : List Str) (sc : Scope) : Bool :=
  (decide (sc.kind = .function) && (!sc.isCoroutine && !sc.isGenerator)) && ((decide N.Nodup && decide (N.take P.length = P)) && (P.all (fun x => locC sc x) && sc.names.all (fun y => !decide (y.2 = .free))))
theorem scQ_ok {N P : List Str} {sc : Scope} (h : scQ N P sc = true) : FnScope N P sc := by
  unfold scQ at h
  simp only [Bool.and_eq_true, Bool.not_eq_true', decide_eq_true_eq, List.all_eq_true, decide_eq_false_iff_not] at h
  obtain ⟨⟨h1, h2, h3⟩, ⟨h4, h5⟩, h6, h7⟩ := h
  exact ⟨h1, h2, h3, h4, h5, fun x hx => loc_by (h6 x hx), h7⟩
/-- a def, by what is looked at -/
theorem defok_of {K : PySem.W.Frag} {h : Heap} {mg : Str → Option Value} {fa : List He.Fa} {fn : List He.DefD} {Γ : String → Option MDef} {Gs : String → Option Int} (X : K.In h) (G : h.Ns mainGlobals mg) (c : He.SaysD fa fn K) {x : String} {st : Stmt} {N ps : List Str} {md : MDef}
    (hd : dMod x st ∈ fn) (hg : He.Fa.glo (Str.ofString x) ∈ fa) (hs : scQ N ps (defScope st) = true) (h1 : ps.length = md.np) (h2 : N.length = md.n)
    (hb : ∀ (kV doc pm : Value) (an : Option Addr) (cdv ct : Value) (us : List Value), us.length = ps.length → bindArgs (PySem.W.fnOf (Str.ofString x) (Str.ofString x) (defArgs st) (defBody st) (defScope st) .none kV doc pm an cdv ct) ⟨us, []⟩ = pure (ps.zip us))
    (em : embSs N Γ Gs (defScope st) md.body (defBody st) = true) : DefOk K mg Γ Gs x md := by
  obtain ⟨fd, F⟩ := says_def c hd
  have F : FunD K (Str.ofString x) (Str.ofString x) (defArgs st) (defBody st) (defScope st) [] [] (He.fAd K (Str.ofString x, none)) fd := F
  exact ⟨N, ps, _, _, _, _, fd, F, scQ_ok hs, h1, h2, He.glo_ok X G (says_fact c hg), F.bindsN hb, em⟩
theorem mem_fa {K : PySem.W.Frag} {fa : List He.Fa} {fn : List He.DefD} (c : He.SaysD (faR ++ fa) fn K) {f : He.Fa} (h : f ∈ faR) : f.ok K = true := says_fact c (List.mem_append_left _ h)
theorem mem_look {α : Type} {x : String} {y : α} : ∀ {l : List (String × α)}, l.lookup x = some y → (x, y) ∈ l
  | [], h => by cases h
  | (a, b) :: r, h => by
    rw [List.lookup_cons] at h
    split at h
    · rename_i e
      cases h
      rw [beq_iff_eq.mp e]
      exact List.mem_cons_self
    · exact List.mem_cons_of_mem _ (mem_look h)
end Mp

namespace Mp
open PySem (Str CmpOp)
/-! ### reckoning with the evaluator -/
@[irreducible] def V {α : Type} (m : M α) (s : Strm) (Q : α → Strm → Prop) : Prop := W m s Q
section
variable {α β : Type} {s : Strm}
theorem V_bind {m : M α} {f : α → M β} {Q : β → Strm → Prop} : V (m >>= f) s Q ↔ V m s fun a s' => V (f a) s' Q := by
  unfold V; exact W_bind
theorem V_pure {a : α} {Q : α → Strm → Prop} : V (pure a) s Q ↔ Q a s := by unfold V; exact W_pure
theorem V_guard {c : Prop} [Decidable c] {Q : Unit → Strm → Prop} : V (guardM c) s Q ↔ c ∧ Q () s := by unfold V; exact W_guard
theorem V_some {a : α} {Q : α → Strm → Prop} : V (ofO (some a)) s Q ↔ Q a s := by unfold V; exact Iff.rfl
theorem V_ite {c : Prop} [Decidable c] {m n : M α} {Q : α → Strm → Prop} : V (if c then m else n) s Q ↔ if c then V m s Q else V n s Q := by unfold V; exact W_ite
theorem V_getS {Q : Strm → Strm → Prop} : V getS s Q ↔ Q s s := by unfold V; exact W_getS
theorem V_setS {t : Strm} {Q : Unit → Strm → Prop} : V (setS t) s Q ↔ Q () t := by unfold V; exact Iff.rfl
theorem V_mono {m : M α} {Q Q' : α → Strm → Prop} (h : V m s Q) (hq : ∀ a s', Q a s' → Q' a s') : V m s Q' := by
  unfold V at h ⊢
  exact W_mono h hq
theorem V_call {Γ : String → Option MDef} {f : String} {md : MDef} {k : Nat} {ds : List D} {Q : D → Strm → Prop} (h : Γ f = some md) (hl : ds.length = md.np)
   (q : V (runs (callF Γ k) (ds.map some ++ List.replicate (md.n - md.np) none) md.body) s fun r s' => match r with | .nx _ => Q .non s' | .ret d => Q d s' | _ => False) : V (callF Γ (k + 1) f ds) s Q := by
  unfold V at q ⊢
  rw [callF, h]
  refine W_bind.mpr (W_guard.mpr ⟨hl, W_bind.mpr (W_mono q fun r s' z => ?_)⟩)
  cases r <;> first | exact z | exact z.elim
/-- a walk by an invariant -/
theorem V_for {body : En → M Fl} {t : Tg} {kill : List Nat} {Q : Fl → Strm → Prop} (P : Nat → En → Strm → Prop) : ∀ (xs : List D) (i : Nat) {e : En} {s : Strm}, P i e s →
    (∀ j x e s, xs[j]? = some x → P (i + j) e s → V (asgT t x e) s fun e1 s1 => V (body e1) s1 fun r s2 => match r with
      | .nx e2 => P (i + j + 1) (kilE kill e2) s2
      | .cont e2 => P (i + j + 1) (kilE kill e2) s2
      | .brk e2 => Q (.nx (kilE kill e2)) s2
      | .ret d => Q (.ret d) s2) → (∀ e s, P (i + xs.length) e s → Q (.nx e) s) → V (forL body t kill xs e) s Q
  | [], i, e, s, h0, _, h2 => by
    rw [forL]
    exact V_pure.mpr (h2 e s h0)
  | x :: xs, i, e, s, h0, h1, h2 => by
    rw [forL]
    refine V_bind.mpr (V_mono (h1 0 x e s rfl h0) fun e1 s1 q => V_bind.mpr (V_mono q fun r s2 q => ?_))
    have rec' : ∀ e2, P (i + 1) e2 s2 → V (forL body t kill xs e2) s2 Q := fun e2 p => V_for P xs (i + 1) p (fun j y e s hj pj => by
      have := h1 (j + 1) y e s (by simpa using hj) (by rw [show i + (j + 1) = i + 1 + j by omega]; exact pj)
      rw [show i + (j + 1) + 1 = i + 1 + j + 1 by omega] at this
      exact this) fun e s p => h2 e s (by rw [List.length_cons, show i + (xs.length + 1) = i + 1 + xs.length by omega]; exact p)
    cases r with
    | nx e2 => exact rec' _ q
    | cont e2 => exact rec' _ q
    | brk e2 => exact V_pure.mpr q
    | ret d => exact V_pure.mpr q
/-- each item made by itself -/
theorem V_map {f : D → M (Option D)} {g : D → D} {Q : List D → Strm → Prop} : ∀ (xs : List D), (∀ x ∈ xs, ∀ R : Option D → Strm → Prop, R (some (g x)) s → V (f x) s R) → Q (xs.map g) s → V (lcD f xs) s Q
  | [], _, q => by rw [lcD]; exact V_pure.mpr q
  | x :: xs, h, q => by
    rw [lcD]
    refine V_bind.mpr (h x List.mem_cons_self _ (V_bind.mpr (V_map xs (fun y hy => h y (List.mem_cons_of_mem _ hy)) (V_pure.mpr q))))
end
theorem V_out {m : M Fl} {s : Strm} {r : Fl} (h : V m s fun x _ => x = r) : ∃ s', m s = .ok r s' := by
  unfold V W at h
  cases e : m s with
  | ok a s' => rw [e] at h; exact ⟨s', by rw [h]⟩
  | err c s' => rw [e] at h; exact h.elim
  | bad => rw [e] at h; exact h.elim
end Mp

namespace Mp
open PySem (Str CmpOp)
theorem pix_nat {n j : Nat} (h : j < n) : pix n (j : Int) = some j := by
  unfold pix
  rw [if_pos (Int.natCast_nonneg j), if_pos (by omega), Int.toNat_natCast]
theorem ix_tup {ds : List D} {j : Nat} {d : D} (h : ds[j]? = some d) : ixD (.tup ds) (.int (j : Int)) = pure d := by
  have hj := (List.getElem?_eq_some_iff.mp h).1
  show ofO ((pix ds.length j).bind fun j => ds[j]?) = _
  rw [pix_nat hj]
  show ofO ds[j]? = _
  rw [h]; rfl
theorem ix_lst {o : Bool} {ds : List D} {j : Nat} {d : D} (h : ds[j]? = some d) : ixD (.lst o ds) (.int (j : Int)) = pure d := by
  have hj := (List.getElem?_eq_some_iff.mp h).1
  show ofO ((pix ds.length j).bind fun j => ds[j]?) = _
  rw [pix_nat hj]
  show ofO ds[j]? = _
  rw [h]; rfl
/-! ### the small steps of the evaluator, one by one -/
theorem B1 : (∀ i j, binD .add (.int i) (.int j) = pure (.int (i + j))) ∧ (∀ i j, binD .sub (.int i) (.int j) = pure (.int (i - j))) ∧ (∀ i j, binD .mul (.int i) (.int j) = do guardM (mulOk i j); pure (.int (i * j))) ∧
  (∀ a b, binD .add (.rat a) (.rat b) = do guardM (Sm a ∧ Sm b); pure (.rat (a + b))) ∧ (∀ a b, binD .sub (.rat a) (.rat b) = do guardM (Sm a ∧ Sm b); pure (.rat (a - b))) ∧ (∀ a b, binD .mul (.rat a) (.rat b) = do guardM (Sm a ∧ Sm b); pure (.rat (a * b))) ∧
  (∀ i j, binD .fdiv (.int i) (.int j) = do guardM (j ≠ 0 ∧ j.natAbs.log2 < 9000); pure (.int (i.fdiv j))) ∧ (∀ i j, binD .mod (.int i) (.int j) = do guardM (j ≠ 0); pure (.int (i.fmod j))) ∧
  (∀ i j, binD .pow (.int i) (.int j) = do guardM (0 ≤ j ∧ j ≤ 1000000 ∧ i.natAbs < 2 ^ 64); pure (.int (i ^ j.toNat))) ∧
  (∀ o as p bs, binD .add (.lst o as) (.lst p bs) = do guardM (as.length + bs.length ≤ LIM); pure (.lst true (as ++ bs))) ∧ (∀ as bs, binD .add (.tup as) (.tup bs) = do guardM (as.length + bs.length ≤ LIM); pure (.tup (as ++ bs))) ∧
  (∀ i, negD (.int i) = pure (.int (-i))) ∧ (∀ a, negD (.rat a) = do guardM (Sm a); pure (.rat (-a))) ∧
  (∀ i j : Int, cmpD .Eq (.int i) (.int j) = pure (i == j)) ∧ (∀ i j : Int, cmpD .NotEq (.int i) (.int j) = pure (!(i == j))) ∧
  (∀ i j, cmpD .Lt (.int i) (.int j) = pure (decide (i < j))) ∧ (∀ i j, cmpD .LtE (.int i) (.int j) = pure (decide (i ≤ j))) ∧ (∀ i j, cmpD .Gt (.int i) (.int j) = pure (decide (j < i))) ∧ (∀ i j, cmpD .GtE (.int i) (.int j) = pure (decide (j ≤ i))) ∧
  (∀ a, cmpD .Is a .non = pure (isNon a)) ∧ (∀ a, cmpD .IsNot a .non = pure (!isNon a)) ∧ (∀ a c, cmpD .Is a (.bl c) = pure (isBl c a)) ∧ (∀ a c, cmpD .IsNot a (.bl c) = pure (!isBl c a)) ∧
  (truth .non = pure false) ∧ (∀ b, truth (.bl b) = pure b) ∧ (∀ i, truth (.int i) = pure (i != 0)) ∧ (∀ b, toB (.bl b) = pure b) ∧
  (∀ a ds, ixD (.tup (a :: ds)) (.int 0) = pure a) ∧ (∀ a b ds, ixD (.tup (a :: b :: ds)) (.int 1) = pure b) ∧ (∀ a b c ds, ixD (.tup (a :: b :: c :: ds)) (.int 2) = pure c) ∧ (∀ a b c d ds, ixD (.tup (a :: b :: c :: d :: ds)) (.int 3) = pure d) ∧
  (∀ o a ds, ixD (.lst o (a :: ds)) (.int 0) = pure a) ∧ (∀ o a b ds, ixD (.lst o (a :: b :: ds)) (.int 1) = pure b) ∧ (∀ o a b c ds, ixD (.lst o (a :: b :: c :: ds)) (.int 2) = pure c) ∧ (∀ o a b c d ds, ixD (.lst o (a :: b :: c :: d :: ds)) (.int 3) = pure d) ∧
  (∀ i, biD .abs [.int i] = pure (.int (if i < 0 then -i else i))) ∧ (∀ i, biD .int [.int i] = pure (.int i)) ∧ (∀ b : Bool, biD .int [.bl b] = pure (.int (if b then 1 else 0))) ∧
  (∀ o ds, biD .len [.lst o ds] = pure (.int ds.length)) ∧ (∀ ds, biD .len [.tup ds] = pure (.int ds.length)) ∧ (∀ ns, biD .list [.scr ns] = pure (.lst true (ns.map .int))) ∧ (∀ o ds, biD .list [.lst o ds] = pure (.lst true ds)) ∧ (∀ ds, biD .list [.tup ds] = pure (.lst true ds)) ∧
  (∀ o ds, biD .tuple [.lst o ds] = pure (.tup ds)) ∧ (∀ ds, biD .tuple [.tup ds] = pure (.tup ds)) ∧ (∀ b : Bool, biD .repr [.bl b] = pure (.str (Str.ofString (if b then "True" else "False")))) ∧ (∀ o ds, lenD (.lst o ds) = pure (.int ds.length)) ∧ (∀ ds, lenD (.tup ds) = pure (.int ds.length)) ∧ (∀ o ds, revD (.lst o ds) = do guardM (D.noOwns ds = true); pure (.lst true ds.reverse)) ∧ (∀ ds, revD (.tup ds) = do guardM (D.noOwns ds = true); pure (.tup ds.reverse)) ∧
  (∀ q, numD (.rat q) = pure (.int q.num)) ∧ (∀ q, denD (.rat q) = pure (.int q.den)) ∧ (∀ n : Int, mkD [.int n] = pure (.rat n)) ∧ (∀ n d, mkD [.int n, .int d] = if d = 0 then err "ByZero" else do guardM (d.natAbs.log2 < 9000); pure (.rat (Rat.divInt n d))) ∧
  (∀ q, isD (.rat q) .ratio = pure true) ∧ (∀ ds, isD (.tup ds) .tuple = pure true) ∧ (∀ o ds, isD (.lst o ds) .list = pure true) ∧ (isD .non .ratio = pure false) ∧
  (∀ ns, seqD (.scr ns) = pure (ns.map .int)) ∧ (∀ ds, seqD (.tup ds) = pure ds) ∧ (∀ o ds, seqD (.lst o ds) = pure ds) ∧ (∀ n : Int, rngD (.int n) = do guardM (-LIM ≤ n ∧ n ≤ LIM); pure (rangeD 0 n.toNat)) ∧
  (∀ ds d, appD (.lst true ds) d = do guardM (ds.length < LIM); pure (.lst true (ds ++ [d]))) := by
  repeat' apply And.intro
  all_goals intros
  all_goals first | rfl | exact ix_lst (j := 0) rfl | exact ix_lst (j := 1) rfl | exact ix_lst (j := 2) rfl | exact ix_lst (j := 3) rfl | exact ix_tup (j := 0) rfl | exact ix_tup (j := 1) rfl | exact ix_tup (j := 2) rfl | exact ix_tup (j := 3) rfl
@[irreducible] def Tst (cf : CF) (c : ME) (e : En) : M Bool := tru (ev cf e .t c)
@[irreducible] def Bdy (cf : CF) (b : MSs) (e : En) : M Fl := runs cf e b
@[irreducible] def Elm (cf : CF) (env : En) (t : Tg) (c e : ME) (d : D) : M (Option D) := do
  let env' ← asgT t d (wipeE env t.slots)
  let b ← (if isNop c then pure true else tru (ev cf env' .t c))
  if b then do let r ← ev cf env' .v e; pure (some r) else pure none
theorem Tst_eq {cf : CF} {c : ME} {e : En} : Tst cf c e = tru (ev cf e .t c) := by unfold Tst; rfl
theorem Bdy_eq {cf : CF} {b : MSs} {e : En} : Bdy cf b e = runs cf e b := by unfold Bdy; rfl
theorem Elm_eq {cf : CF} {env : En} {t : Tg} {c e : ME} {d : D} : Elm cf env t c e d = (do
  let env' ← asgT t d (wipeE env t.slots)
  let b ← (if isNop c then pure true else tru (ev cf env' .t c))
  if b then do let r ← ev cf env' .v e; pure (some r) else pure none) := by unfold Elm; rfl
section
variable (cf : CF) (env : En)
theorem E1 : (∀ p, ev cf env p .non = pure .non) ∧ (∀ p b, ev cf env p (.bl b) = pure (.bl b)) ∧ (∀ p i, ev cf env p (.int i) = pure (.int i)) ∧ (∀ p s, ev cf env p (.str s) = pure (.str (Str.ofString s))) ∧
  (∀ p i, ev cf env p (.var i) = match env[i]? with | some (some d) => do guardM (p ≠ .v ∨ d.noOwn = true); pure d | _ => bad) ∧ (∀ p x i, ev cf env p (.glob x i) = pure (.int i)) ∧
  (∀ p op a b, ev cf env p (.bin op a b) = do let x ← bw a (ev cf env .p a); let y ← bw b (ev cf env .p b); binD op x y) ∧ (∀ p a, ev cf env p (.neg a) = do let x ← ev cf env .v a; negD x) ∧
  (∀ p op a b, ev cf env p (.cmp op a b) = do let x ← ev cf env .p a; let y ← ev cf env .p b; let r ← cmpD op x y; pure (.bl r)) ∧
  (∀ p op op' a b c, ev cf env p (.chain op op' a b c) = do let x ← ev cf env .v a; let y ← ev cf env .v b; let r ← cmpD op x y; if r then do let z ← ev cf env .v c; let r' ← cmpD op' y z; pure (.bl r') else pure (.bl false)) ∧
  (∀ a, ev cf env .t (.not a) = notB (tru (ev cf env .t a))) ∧ (∀ a, ev cf env .v (.not a) = notB (tru (ev cf env .p a))) ∧ (∀ a, ev cf env .p (.not a) = notB (tru (ev cf env .p a))) ∧
  (∀ a b, ev cf env .t (.and a b) = do let c ← tru (ev cf env .t a); if c then do let r ← tru (ev cf env .t b); pure (.bl r) else pure (.bl false)) ∧
  (∀ a b, ev cf env .v (.and a b) = do let x ← ev cf env .v a; let c ← toB x; if c then ev cf env .v b else pure (.bl false)) ∧ (∀ a b, ev cf env .p (.and a b) = do let x ← ev cf env .v a; let c ← toB x; if c then ev cf env .v b else pure (.bl false)) ∧
  (∀ a b, ev cf env .t (.or a b) = do let c ← tru (ev cf env .t a); if c then pure (.bl true) else do let r ← tru (ev cf env .t b); pure (.bl r)) ∧
  (∀ a b, ev cf env .v (.or a b) = do let x ← ev cf env .v a; let c ← toB x; if c then pure (.bl true) else ev cf env .v b) ∧ (∀ a b, ev cf env .p (.or a b) = do let x ← ev cf env .v a; let c ← toB x; if c then pure (.bl true) else ev cf env .v b) ∧
  (∀ c a b, ev cf env .v (.ifx c a b) = do let r ← tru (ev cf env .t c); if r then ev cf env .v a else ev cf env .v b) ∧ (∀ c a b, ev cf env .p (.ifx c a b) = do let r ← tru (ev cf env .t c); if r then ev cf env .v a else ev cf env .v b) ∧
  (∀ p a k, ev cf env p (.ix a k) = do let d ← ev cf env .p a; let i ← ev cf env .v k; let r ← ixD d i; guardM (p ≠ .v ∨ isPath a = false ∨ r.noOwn = true); pure r) ∧
  (∀ p a lo hi, ev cf env p (.sl a lo hi) = do let d ← bw a (ev cf env .p a); let l ← optI lo (ev cf env .v lo); let h ← optI hi (ev cf env .v hi); slD d l h) ∧
  (∀ p a, ev cf env p (.top a) = do let x ← ev cf env .v a; numD x) ∧ (∀ p a, ev cf env p (.bot a) = do let x ← ev cf env .v a; denD x) ∧
  (∀ p as, ev cf env p (.tup as) = do let ds ← evs cf env as; pure (.tup ds)) ∧ (∀ p as, ev cf env p (.lst as) = do let ds ← evs cf env as; pure (.lst true ds)) ∧
  (∀ p f as, ev cf env p (.call f as) = do let ds ← evas cf env as; let d ← cf f (D.strips ds); guardM (d.noShr = true ∨ D.noOwns ds = true); pure d) ∧
  (∀ p b as, ev cf env p (.bi b as) = do let ds ← evbs cf env as; biD b ds) ∧ (∀ p as, ev cf env p (.mk as) = do let ds ← evs cf env as; mkD ds) ∧ (∀ p a t, ev cf env p (.isi a t) = do let x ← ev cf env .p a; let b ← isD x t; pure (.bl b)) ∧
  (∀ p a, ev cf env p (.rev a) = do let d ← ev cf env .v a; revD d) ∧ (∀ p a, ev cf env p (.jn a) = do let d ← ev cf env .v a; joinD d) ∧ (∀ p a, ev cf env p (.mkI a) = do let d ← ev cf env .v a; mkID d) ∧ (∀ p a, ev cf env p (.lrg a) = do let d ← ev cf env .v a; let ds ← rngD d; pure (.lst true ds)) ∧ (∀ p a, ev cf env p (.fz a) = do let d ← ev cf env .v a; pure d.strip) ∧ (∀ p a, ev cf env p (.ln a) = do let d ← ev cf env .p a; lenD d) ∧
  (∀ p t it c e, ev cf env p (.lc t it c e) = do let ds ← items cf env it; guardM (ds.length ≤ LIM ∧ D.noOwns ds = true); let rs ← lcD (Elm cf env t c e) ds; pure (.lst true rs)) ∧
  (evs cf env .nil = pure []) ∧ (∀ a as, evs cf env (.cons a as) = do let d ← ev cf env .v a; let ds ← evs cf env as; pure (d :: ds)) ∧ (evas cf env .nil = pure []) ∧ (∀ a as, evas cf env (.cons a as) = do let d ← ev cf env .p a; let ds ← evas cf env as; pure (d :: ds)) ∧
  (evbs cf env .nil = pure []) ∧ (∀ a as, evbs cf env (.cons a as) = do let d ← bw a (ev cf env .p a); let ds ← evbs cf env as; pure (d :: ds)) ∧
  (∀ a, items cf env (.seq a) = do let d ← ev cf env .v a; seqD d) ∧ (∀ a, items cf env (.rng a) = do let d ← ev cf env .v a; rngD d) ∧ (∀ a b, items cf env (.rng2 a b) = do let d ← ev cf env .v a; let d' ← ev cf env .v b; rng2D d d') ∧
  (∀ a, items cf env (.enum a) = do let d ← ev cf env .v a; let ds ← seqD d; pure (enumD 0 ds)) ∧ (∀ a b, items cf env (.zip a b) = do let d ← ev cf env .v a; let d' ← ev cf env .v b; guardM (d.noOwn = true ∧ d'.noOwn = true); let ds ← seqD d; let ds' ← seqD d'; pure (zipD ds ds')) := by
  have el : ∀ t c e, Elm cf env t c e = fun d => (do
    let env' ← asgT t d (wipeE env t.slots)
    let b ← (if isNop c then pure true else tru (ev cf env' .t c))
    if b then do let r ← ev cf env' .v e; pure (some r) else pure none) := fun t c e => funext fun d => Elm_eq
  repeat' apply And.intro
  all_goals intros
  all_goals first | (rw [el, ev]; done) | (rw [ev]; done) | (rw [evs]; done) | (rw [evas]; done) | (rw [evbs]; done) | (rw [items]; done) | rfl
theorem R1 : (∀ t e, run cf env (.asg t e) = do let d ← ev cf env .v e; let r ← asgT t d env; pure (.nx r)) ∧ (∀ i j a b, run cf env (.par i j a b) = do let x ← ev cf env .v a; let y ← ev cf env .v b; pure (.nx (setE (setE env i x) j y))) ∧
  (∀ i e, run cf env (.aug i e) = do let o ← getE env i; let d ← ev cf env .v e; let r ← augD o d; pure (.nx (setE env i r))) ∧
  (∀ i k e, run cf env (.set1 i k e) = do let d ← ev cf env .v e; let kd ← ev cf env .v k; let o ← getE env i; let r ← set1D o kd d; pure (.nx (setE env i r))) ∧
  (∀ i k l e, run cf env (.set2 i k l e) = do let d ← ev cf env .v e; let kd ← ev cf env .v k; let ld ← ev cf env .v l; let o ← getE env i; let r ← set2D o kd ld d; pure (.nx (setE env i r))) ∧
  (∀ i e, run cf env (.app i e) = do let d ← ev cf env .v e; let o ← getE env i; let r ← appD o d; pure (.nx (setE env i r))) ∧
  (∀ i e, run cf env (.ext i e) = do let d ← bw e (ev cf env .p e); let o ← getE env i; let r ← extD o d; pure (.nx (setE env i r))) ∧
  (∀ i k e, run cf env (.ins i k e) = do let kd ← ev cf env .v k; let d ← ev cf env .v e; let o ← getE env i; let r ← insD o kd d; pure (.nx (setE env i r))) ∧
  (∀ t i k, run cf env (.pop t i k) = do let kd ← ev cf env .v k; let o ← getE env i; let r ← popD o kd; pure (.nx (setE (setE env i r.2) t r.1))) ∧
  (∀ e, run cf env (.exp e) = do let _ ← ev cf env .p e; pure (.nx env)) ∧ (∀ e, run cf env (.ret e) = do let d ← ev cf env .v e; pure (.ret d)) ∧ (∀ i, run cf env (.retv i) = do let d ← getE env i; pure (.ret d)) ∧ (run cf env .retN = pure (.ret .non)) ∧
  (∀ c a b, run cf env (.ite c a b) = do let r ← tru (ev cf env .t c); if r then runs cf env a else runs cf env b) ∧
  (∀ t it b kl, run cf env (.loop t it b kl) = do let ds ← items cf env it; guardM (D.noOwns ds = true); forL (Bdy cf b) t kl ds (kilE kl env)) ∧
  (∀ n c b kl, run cf env (.while n c b kl) = whileL (Tst cf c) (Bdy cf b) kl n (kilE kl env)) ∧
  (run cf env .brk = pure (.brk env)) ∧ (run cf env .cont = pure (.cont env)) ∧ (run cf env .pass = pure (.nx env)) ∧ (∀ i, run cf env (.frz i) = do let d ← getE env i; pure (.nx (setE env i d.strip))) ∧ (∀ l, run cf env (.kil l) = pure (.nx (kilE l env))) ∧
  (∀ i j, run cf env (.appm i j) = do let d ← getE env j; let o ← getE (env.set j none) i; let r ← appD o d; pure (.nx (setE (env.set j none) i r))) ∧ (∀ t i, run cf env (.spoil t i) = do guardM (t ≠ i ∧ t < env.length); let o ← getE env i; let r ← spoilD o; pure (.nx (setE (env.set t none) i r))) ∧ (∀ i k e, run cf env (.app2 i k e) = do let kd ← ev cf env .v k; let d ← ev cf env .v e; let o ← getE env i; let r ← app2D o kd d; pure (.nx (setE env i r))) ∧ (∀ f i, run cf env (.retu f i) = do let d0 ← getE env i; let rs0 ← ofO (rowsOf true d0); let s0 ← getS; let d ← cf f [.lst false (rowsD false rs0)]; setS s0; let rs ← ofO (rowsOf false d); guardM rs.Nodup; pure (.ret (.lst true (rowsD true rs)))) ∧ (∀ i c a b, run cf env (.iteF i c a b) = do let d ← getE env i; let r ← tru (ev cf (setE env i d.strip) .t c); if r then runs cf env a else runs cf env b) ∧ (∀ t i, run cf env (.spoil0 t i) = do guardM (t ≠ i ∧ t < env.length); let o ← getE env i; let r ← sp0D o; pure (.nx (setE (env.set t none) i r))) ∧ (∀ i, run cf env (.app0 i) = do let o ← getE env i; let r ← app0D o; pure (.nx (setE env i r))) ∧ (∀ i j, run cf env (.mv i j) = do let d ← getE env j; pure (.nx (setE (env.set j none) i d))) ∧ (runs cf env .nil = pure (.nx env)) := by
  have hb : ∀ b, Bdy cf b = fun e => runs cf e b := fun b => funext fun e => Bdy_eq
  have ht : ∀ c, Tst cf c = fun e => tru (ev cf e .t c) := fun c => funext fun e => Tst_eq
  repeat' apply And.intro
  all_goals intros
  all_goals first | (rw [ht, hb, run]; done) | (rw [hb, run]; done) | (rw [run]; done) | (rw [runs]; done)
/-- what stands behind a statement -/
@[irreducible] def Nxt (as : MSs) (Q : Fl → Strm → Prop) (r : Fl) (s : Strm) : Prop := match r with
  | .nx e => V (runs cf e as) s Q
  | r => Q r s
theorem N1 {as : MSs} {Q : Fl → Strm → Prop} {s : Strm} : (∀ e, Nxt cf as Q (.nx e) s ↔ V (runs cf e as) s Q) ∧ (∀ d, Nxt cf as Q (.ret d) s ↔ Q (.ret d) s) ∧ (∀ e, Nxt cf as Q (.brk e) s ↔ Q (.brk e) s) ∧ (∀ e, Nxt cf as Q (.cont e) s ↔ Q (.cont e) s) := by
  unfold Nxt
  exact ⟨fun _ => Iff.rfl, fun _ => Iff.rfl, fun _ => Iff.rfl, fun _ => Iff.rfl⟩
theorem N2 {Q : Fl → Strm → Prop} {s : Strm} : (∀ e, Nxt cf .nil Q (.nx e) s ↔ Q (.nx e) s) ∧ (∀ as d, Nxt cf as Q (.ret d) s ↔ Q (.ret d) s) ∧ (∀ as e, Nxt cf as Q (.brk e) s ↔ Q (.brk e) s) ∧ (∀ as e, Nxt cf as Q (.cont e) s ↔ Q (.cont e) s) := by
  refine ⟨fun e => ?_, fun as => (N1 cf).2.1, fun as => (N1 cf).2.2.1, fun as => (N1 cf).2.2.2⟩
  rw [(N1 cf).1, runs]
  exact V_pure
theorem V_cons {a : MS} {as : MSs} {s : Strm} {Q : Fl → Strm → Prop} : V (runs cf env (.cons a as)) s Q ↔ V (run cf env a) s (Nxt cf as Q) := by
  rw [runs, V_bind]
  have e : (fun (a : Fl) (s' : Strm) => V (match a with | .nx e => runs cf e as | r => pure r) s' Q) = Nxt cf as Q := by
    funext r s'
    cases r with
    | nx e => exact propext ((N1 cf).1 e).symm
    | ret d => exact propext (V_pure.trans ((N1 cf).2.1 d).symm)
    | brk e => exact propext (V_pure.trans ((N1 cf).2.2.1 e).symm)
    | cont e => exact propext (V_pure.trans ((N1 cf).2.2.2 e).symm)
  exact iff_of_eq (congrArg (V (run cf env a) s) e)
end
theorem G1 : (∀ q, elemsOk (.rat q) = true) ∧ (∀ q, elemsOk (.int q) = true) ∧ (∀ q, elemsOk (.bl q) = true) ∧ (∀ q, elemsOk (.str q) = true) ∧ (elemsOk .non = true) ∧ (elemsOk .strm = true) ∧ (∀ q, elemsOk (.scr q) = true) ∧ (∀ ds, elemsOk (.tup ds) = D.noOwns ds) ∧ (∀ o ds, elemsOk (.lst o ds) = D.noOwns ds) ∧
  (∀ q, D.noOwn (.rat q) = true) ∧ (∀ q, D.noOwn (.int q) = true) ∧ (∀ q, D.noOwn (.bl q) = true) ∧ (∀ q, D.noOwn (.str q) = true) ∧ (D.noOwn .non = true) ∧ (D.noOwn .strm = true) ∧ (∀ q, D.noOwn (.scr q) = true) ∧ (∀ ds, D.noOwn (.tup ds) = D.noOwns ds) ∧ (∀ ds, D.noOwn (.lst false ds) = D.noOwns ds) ∧ (∀ ds, D.noOwn (.lst true ds) = false) ∧
  (D.noOwns [] = true) ∧ (∀ d ds, D.noOwns (d :: ds) = (d.noOwn && D.noOwns ds)) ∧
  (∀ q, D.noShr (.rat q) = true) ∧ (∀ q, D.noShr (.int q) = true) ∧ (∀ q, D.noShr (.bl q) = true) ∧ (∀ q, D.noShr (.str q) = true) ∧ (D.noShr .non = true) ∧ (D.noShr .strm = true) ∧ (∀ ds, D.noShr (.tup ds) = D.noShrs ds) ∧ (∀ o ds, D.noShr (.lst o ds) = (o && D.noShrs ds)) ∧
  (D.noShrs [] = true) ∧ (∀ d ds, D.noShrs (d :: ds) = (d.noShr && D.noShrs ds)) := by
  repeat' apply And.intro
  all_goals intros
  all_goals rfl
theorem S1 : (ixD .strm (.int 0) = do let s ← getS; pure (.lst false (s.cells.map .int))) ∧ (ixD .strm (.int 1) = do let s ← getS; pure (.int s.cell)) ∧ (ixD .strm (.int 2) = do let s ← getS; pure (.int s.ix)) ∧ (ixD .strm (.int 3) = do let s ← getS; pure (.int s.mixed)) ∧
  (∀ z, set1D .strm (.int 1) (.int z) = do let s ← getS; setS { s with cell := z }; pure .strm) ∧ (∀ z, set1D .strm (.int 2) (.int z) = do let s ← getS; setS { s with ix := z }; pure .strm) ∧ (∀ z, set1D .strm (.int 3) (.int z) = do let s ← getS; setS { s with mixed := z }; pure .strm) := by
  refine ⟨?_, ?_, ?_, ?_, ?_, ?_, ?_⟩ <;> intros <;> rfl
def pr (q : Rat) : D := .tup [.int q.num, .int q.den]
theorem P1 : (∀ a, (pr a).noOwn = true) ∧ (∀ a, (pr a).strip = pr a) ∧ (∀ a, (pr a).noShr = true) ∧ (∀ a, elemsOk (pr a) = true) ∧ (∀ a, ixD (pr a) (.int 0) = pure (.int a.num)) ∧ (∀ a, ixD (pr a) (.int 1) = pure (.int a.den)) := ⟨fun _ => rfl, fun _ => rfl, fun _ => rfl, fun _ => rfl, fun _ => ix_tup (j := 0) rfl, fun _ => ix_tup (j := 1) rfl⟩
/-! ### Euclid's walk -/
end Mp

local macro_rules | `(tactic| walk_at "mp mn") => `(tactic| ((try simp only [Mp.E1, Mp.R1, Mp.N2, Mp.V_cons, Mp.bw, Mp.optI, Mp.tru, Mp.notB, Mp.V_bind, Mp.V_pure, Mp.V_guard, Mp.V_ite, Mp.V_some, Mp.V_getS, Mp.V_setS, Mp.getE, Mp.asgT, Mp.setE, Mp.setsE, Mp.kilE, Mp.wipeE, Mp.D.strips, Mp.D.strip, Mp.isNop, Mp.B1, Mp.S1, Mp.P1, List.map, List.append, List.replicate, List.set_cons_zero, List.set_cons_succ, List.getElem?_cons_zero, List.getElem?_cons_succ, List.cons_append, List.nil_append, Mp.Tg.slots, if_true, Bool.false_eq_true, if_false, reduceIte, List.length_cons, List.length_nil]); (try simp only [ne_eq, reduceCtorEq, not_false_eq_true, not_true_eq_false, true_or, or_true, false_or, or_false, true_and, and_true, Mp.isPath, Mp.G1, Mp.P1, Bool.and_true, Bool.true_and, Bool.and_self, Bool.not_true, Bool.not_false])))
local macro_rules | `(tactic| walk_at "mp ms") => `(tactic| ((try simp only [Mp.E1, Mp.R1, Mp.N1, Mp.V_cons, Mp.bw, Mp.optI, Mp.tru, Mp.notB, Mp.V_bind, Mp.V_pure, Mp.V_guard, Mp.V_ite, Mp.V_some, Mp.V_getS, Mp.V_setS, Mp.getE, Mp.asgT, Mp.setE, Mp.setsE, Mp.kilE, Mp.wipeE, Mp.D.strips, Mp.D.strip, Mp.isNop, Mp.B1, Mp.S1, Mp.P1, List.map, List.append, List.replicate, List.set_cons_zero, List.set_cons_succ, List.getElem?_cons_zero, List.getElem?_cons_succ, List.cons_append, List.nil_append, Mp.Tg.slots, if_true, Bool.false_eq_true, if_false, reduceIte, List.length_cons, List.length_nil]); (try simp only [ne_eq, reduceCtorEq, not_false_eq_true, not_true_eq_false, true_or, or_true, false_or, or_false, true_and, and_true, Mp.isPath, Mp.G1, Mp.P1, Bool.and_true, Bool.true_and, Bool.and_self, Bool.not_true, Bool.not_false])))
local macro_rules | `(tactic| walk_at "mp nx") => `(tactic| (walk_at "mp mn"; (try rw [(Mp.N1 _).1]); walk_at "mp mn"))
local macro_rules | `(tactic| walk_at "mp xx") => `(tactic| (walk_at "mp nx"; walk_at "mp nx"; walk_at "mp nx"))
namespace Mp
open PySem (Str CmpOp)
/-! ### the laws' own words: pairs of integers, the draws -/
def d__law_stream : MDef := ⟨1, 3, (.cons (.asg (.nm 1) (.int 17)) (.cons (.loop (.nm 2) (.seq (.var 0)) (.cons (.asg (.nm 1) (.bin .mod (.bi .int (.cons (.bin .add (.bin .add (.bin .mul (.var 1) (.int 48271)) (.bin .mod (.bi .int (.cons (.var 2) .nil)) (.int 65521))) (.int 1)) .nil)) (.int 2147483647))) .nil) [2]) (.cons (.ret (.lst (.cons (.bi .list (.cons (.var 0) .nil)) (.cons (.int 0) (.cons (.int 0) (.cons (.var 1) .nil)))))) .nil)))⟩
def d__law_draw : MDef := ⟨2, 3, (.cons (.ite (.and (.cmp .Eq (.ix (.var 0) (.int 1)) (.int 0)) (.cmp .Lt (.ix (.var 0) (.int 2)) (.bi .len (.cons (.ix (.var 0) (.int 0)) .nil)))) (.cons (.set1 0 (.int 1) (.bi .abs (.cons (.bi .int (.cons (.ix (.ix (.var 0) (.int 0)) (.ix (.var 0) (.int 2))) .nil)) .nil))) (.cons (.set1 0 (.int 2) (.bin .add (.ix (.var 0) (.int 2)) (.int 1))) .nil)) .nil) (.cons (.ite (.cmp .Eq (.ix (.var 0) (.int 1)) (.int 0)) (.cons (.set1 0 (.int 3) (.bin .mod (.bi .int (.cons (.bin .add (.bin .mul (.ix (.var 0) (.int 3)) (.int 48271)) (.int 11)) .nil)) (.int 2147483647))) (.cons (.ret (.bin .mod (.bi .int (.cons (.bin .fdiv (.ix (.var 0) (.int 3)) (.int 97)) .nil)) (.var 1))) .nil)) .nil) (.cons (.asg (.nm 2) (.bin .mod (.bi .int (.cons (.ix (.var 0) (.int 1)) .nil)) (.var 1))) (.cons (.set1 0 (.int 1) (.bin .fdiv (.ix (.var 0) (.int 1)) (.var 1))) (.cons (.ret (.var 2)) .nil)))))⟩
def d__law_pair : MDef := ⟨2, 4, (.cons (.asg (.nm 2) (.bi .abs (.cons (.var 0) .nil))) (.cons (.asg (.nm 3) (.bi .abs (.cons (.var 1) .nil))) (.cons (.while 100000 (.cmp .Gt (.var 3) (.int 0)) (.cons (.par 2 3 (.var 3) (.bin .mod (.bi .int (.cons (.var 2) .nil)) (.bi .int (.cons (.var 3) .nil)))) .nil) []) (.cons (.ite (.cmp .Lt (.var 1) (.int 0)) (.cons (.asg (.nm 2) (.bin .sub (.int 0) (.var 2))) .nil) .nil) (.cons (.ret (.tup (.cons (.bin .fdiv (.var 0) (.var 2)) (.cons (.bin .fdiv (.var 1) (.var 2)) .nil)))) .nil)))))⟩
def d__law_over : MDef := ⟨2, 2, (.cons (.ret (.call "_law_pair" (.cons (.bin .mul (.ix (.var 0) (.int 0)) (.ix (.var 1) (.int 1))) (.cons (.bin .mul (.ix (.var 0) (.int 1)) (.ix (.var 1) (.int 0))) .nil)))) .nil)⟩
def d__law_number : MDef := ⟨1, 1, (.cons (.ite (.cmp .Eq (.call "_law_draw" (.cons (.var 0) (.cons (.int 12) .nil))) (.int 0)) (.cons (.ret (.call "_law_pair" (.cons (.bin .sub (.call "_law_draw" (.cons (.var 0) (.cons (.bin .pow (.int 10) (.int 9)) .nil))) (.bin .mul (.int 5) (.bin .pow (.int 10) (.int 8)))) (.cons (.bin .add (.int 1) (.call "_law_draw" (.cons (.var 0) (.cons (.bin .pow (.int 10) (.int 6)) .nil)))) .nil)))) .nil) .nil) (.cons (.ret (.call "_law_pair" (.cons (.bin .sub (.call "_law_draw" (.cons (.var 0) (.cons (.int 25) .nil))) (.int 12)) (.cons (.bin .add (.int 1) (.call "_law_draw" (.cons (.var 0) (.cons (.ix (.lst (.cons (.int 1) (.cons (.int 6) .nil))) (.call "_law_draw" (.cons (.var 0) (.cons (.int 2) .nil)))) .nil)))) .nil)))) .nil))⟩
def d__law_less : MDef := ⟨2, 2, (.cons (.ret (.cmp .Lt (.bin .mul (.ix (.var 0) (.int 0)) (.ix (.var 1) (.int 1))) (.bin .mul (.ix (.var 1) (.int 0)) (.ix (.var 0) (.int 1))))) .nil)⟩
section
variable {Γ : String → Option MDef} {k : Nat} {s : Strm} {Q : D → Strm → Prop}
theorem rat_divE {a b : Rat} (hb : b ≠ 0) : Rat.divInt (a.num * b.den) (a.den * b.num) = a / b := by
  have h1 : (a.den : Int) ≠ 0 := by have := a.den_nz; omega
  have h2 : b.num ≠ 0 := fun z => hb (Rat.num_eq_zero.mp z)
  rw [Rat.div_def, ← Rat.divInt_mul_divInt, Rat.num_divInt_den]
  congr 1
  rw [← Rat.inv_divInt, Rat.num_divInt_den]
theorem num_neg' {a : Rat} : a.num < 0 ↔ a < 0 := by
  have := @Rat.num_nonneg a
  rw [← Rat.not_le, ← this]
  omega
def ra (q : Rat) : Rat := if q < 0 then -q else q
theorem V_less (h2 : Γ "_law_less" = some d__law_less) {a b : Rat} (ha : Sm a) (hb : Sm b) (q : Q (.bl (decide (a < b))) s) : V (callF Γ (k + 1) "_law_less" [pr a, pr b]) s Q := by
  refine V_call h2 rfl ?_
  simp only [d__law_less, pr]
  walk_at "mp ms"
  refine ⟨sm_mul ha.num (by simpa using hb.den), sm_mul hb.num (by simpa using ha.den), ?_⟩
  have e : decide (a.num * (b.den : Int) < b.num * (a.den : Int)) = decide (a < b) := decide_eq_decide.mpr (Rat.lt_iff a b).symm
  rw [e]
  exact q
/-! ### draws -/
/-- a stream that may be drawn from -/
structure Sok (s : Strm) : Prop where
  ix : 0 ≤ s.ix
  lo : 0 ≤ s.mixed
  hi : s.mixed < 2147483647
theorem cells_get {ns : List Int} {j : Nat} {z : Int} (h : ns[j]? = some z) : (ns.map D.int)[j]? = some (.int z) := by rw [List.getElem?_map, h]; rfl
theorem V_draw (h2 : Γ "_law_draw" = some d__law_draw) {n : Int} (hn : 0 < n) (hl : n.natAbs.log2 < 9000) (hs : Sok s) (q : ∀ v s', Sok s' → 0 ≤ v → v < n → Q (.int v) s') : V (callF Γ (k + 1) "_law_draw" [.strm, .int n]) s Q := by
  refine V_call h2 rfl ?_
  have fin : ∀ t : Strm, Sok t → if (t.cell == 0) = true then mulOk t.mixed 48271 ∧ ¬(2147483647 : Int) = 0 ∧ (¬(97 : Int) = 0 ∧ (Int.natAbs 97).log2 < 9000) ∧ ¬n = 0 ∧
          Q (D.int ((((t.mixed * 48271 + 11).fmod 2147483647).fdiv 97).fmod n)) { cells := t.cells, cell := t.cell, ix := t.ix, mixed := (t.mixed * 48271 + 11).fmod 2147483647 }
      else ¬n = 0 ∧ (¬n = 0 ∧ n.natAbs.log2 < 9000) ∧ Q (D.int (t.cell.fmod n)) { cells := t.cells, cell := t.cell.fdiv n, ix := t.ix, mixed := t.mixed } := by
    intro t ht
    have n0 : ¬ n = 0 := by omega
    split
    · refine ⟨?_, by decide, ⟨by decide, by decide +kernel⟩, n0, q _ _ ⟨ht.ix, Int.fmod_nonneg_of_pos _ (by decide), Int.fmod_lt_of_pos _ (by decide)⟩ (Int.fmod_nonneg_of_pos _ hn) (Int.fmod_lt_of_pos _ hn)⟩
      have h1 := ht.lo
      have h3 := ht.hi
      have h4 : t.mixed.natAbs < 2 ^ 31 := by omega
      have h5 : t.mixed.natAbs.log2 < 32 := by
        by_cases z : t.mixed.natAbs = 0
        · rw [z]; decide
        · exact Nat.lt_succ_of_lt ((Nat.log2_lt z).mpr h4)
      have h6 : (Int.natAbs 48271).log2 < 32 := by decide +kernel
      unfold mulOk
      omega
    · exact ⟨n0, ⟨n0, hl⟩, q _ _ ⟨ht.ix, ht.lo, ht.hi⟩ (Int.fmod_nonneg_of_pos _ hn) (Int.fmod_lt_of_pos _ hn)⟩
  simp only [d__law_draw]
  walk_at "mp ms"
  have no : D.noOwns (List.map D.int s.cells) = true := by
    generalize s.cells = xs
    induction xs with
    | nil => rfl
    | cons x xs ih => exact ih
  split
  · refine ⟨no, ?_⟩
    split
    · rename_i hlt
      have hlt : s.ix < (s.cells.map D.int).length := of_decide_eq_true hlt
      rw [List.length_map] at hlt
      obtain ⟨j, hj⟩ := Int.eq_ofNat_of_zero_le hs.ix
      have hj2 : j < s.cells.length := by omega
      have e := cells_get (List.getElem?_eq_getElem hj2)
      rw [hj, ix_lst e]
      walk_at "mp ms"
      have := fin { cells := s.cells, cell := if s.cells[j] < 0 then -s.cells[j] else s.cells[j], ix := s.ix + 1, mixed := s.mixed } ⟨by have := hs.ix; show 0 ≤ s.ix + 1; omega, hs.lo, hs.hi⟩
      exact this
    · rename_i hc _
      have f := fin s hs
      rw [if_pos hc] at f
      exact f
  · rename_i hc
    have f := fin s hs
    rw [if_neg hc] at f
    exact f
theorem V_stream (h2 : Γ "_law_stream" = some d__law_stream) {ns : List Int} (q : ∀ m : Int, 0 ≤ m → m < 2147483647 → Q (.lst true [.lst true (ns.map .int), .int 0, .int 0, .int m]) s) : V (callF Γ (k + 1) "_law_stream" [.scr ns]) s Q := by
  refine V_call h2 rfl ?_
  simp only [d__law_stream]
  walk_at "mp ms"
  have no : D.noOwns (List.map D.int ns) = true := by
    generalize ns = xs
    induction xs with
    | nil => rfl
    | cons x xs ih => exact ih
  refine ⟨no, ?_⟩
  refine V_for (fun i e t => t = s ∧ ∃ m : Int, 0 ≤ m ∧ m < 2147483647 ∧ e = [some (.scr ns), some (.int m), none]) _ 0 ⟨rfl, 17, by decide, by decide, rfl⟩ ?_ ?_
  · rintro j x e t hx ⟨rfl, m, m0, m1, rfl⟩
    rw [List.getElem?_map] at hx
    obtain ⟨c, _, rfl⟩ := Option.map_eq_some_iff.mp hx
    walk_at "mp ms"
    rw [Bdy_eq]
    walk_at "mp ms"
    refine ⟨?_, by decide, by decide, _, Int.fmod_nonneg_of_pos _ (by decide), Int.fmod_lt_of_pos _ (by decide), rfl⟩
    have h4 : m.natAbs < 2 ^ 31 := by omega
    have h5 : m.natAbs.log2 < 32 := by
      by_cases z : m.natAbs = 0
      · rw [z]; decide
      · exact Nat.lt_succ_of_lt ((Nat.log2_lt z).mpr h4)
    have h6 : (Int.natAbs 48271).log2 < 32 := by decide +kernel
    unfold mulOk
    omega
  · rintro e t ⟨rfl, m, m0, m1, rfl⟩
    walk_at "mp ms"
    exact q m m0 m1
end
end Mp

namespace Mp
open PySem (Str CmpOp)
/-! ### how long fractions are -/
structure Zb (n d : Nat) (q : Rat) : Prop where
  num : q.num.natAbs < 2 ^ n
  den : q.den ≤ 2 ^ d
theorem Zb.mono {n d n' d' : Nat} {q : Rat} (h : Zb n d q) (h1 : n ≤ n') (h2 : d ≤ d') : Zb n' d' q :=
  ⟨Nat.lt_of_lt_of_le h.num (Nat.pow_le_pow_right (by decide) h1), Nat.le_trans h.den (Nat.pow_le_pow_right (by decide) h2)⟩
theorem Zb.sm {n d : Nat} {q : Rat} (h : Zb n d q) (h1 : n ≤ 4490) (h2 : d < 4490) : Sm q :=
  ⟨Nat.lt_of_lt_of_le h.num (Nat.pow_le_pow_right (by decide) h1), Nat.lt_of_le_of_lt h.den (Nat.pow_lt_pow_right (by decide) h2)⟩
theorem Zb.divInt {n d : Int} {a b : Nat} (hd : d ≠ 0) (h1 : n.natAbs < 2 ^ a) (h2 : d.natAbs ≤ 2 ^ b) : Zb a b (Rat.divInt n d) := by
  have hg : 0 < Int.gcd d n := Int.gcd_pos_of_ne_zero_left _ hd
  refine ⟨?_, ?_⟩
  · rw [Rat.num_divInt]
    refine Nat.lt_of_le_of_lt ?_ h1
    have e : (d.sign * n).natAbs = n.natAbs := by
      rcases Int.lt_or_gt_of_ne hd with h | h
      · rw [Int.sign_eq_neg_one_of_neg h]; omega
      · rw [Int.sign_eq_one_of_pos h]; omega
    rw [← e]
    exact Int.natAbs_ediv_le_natAbs _ _
  · rw [Rat.den_divInt, if_neg hd]
    exact Nat.le_trans (Nat.div_le_self _ _) h2
theorem Zb.add {n d n' d' : Nat} {a b : Rat} (h : Zb n d a) (h' : Zb n' d' b) : Zb (max (n + d') (n' + d) + 1) (d + d') (a + b) := by
  rw [← rat_addE]
  refine Zb.divInt rat_den_ne ?_ ?_
  · have h1 : (a.num * b.den).natAbs < 2 ^ (n + d') := by
      rw [Int.natAbs_mul, Int.natAbs_natCast, Nat.pow_add]
      exact Nat.mul_lt_mul_of_lt_of_le h.num h'.den (Nat.two_pow_pos _)
    have h2 : (b.num * a.den).natAbs < 2 ^ (n' + d) := by
      rw [Int.natAbs_mul, Int.natAbs_natCast, Nat.pow_add]
      exact Nat.mul_lt_mul_of_lt_of_le h'.num h.den (Nat.two_pow_pos _)
    have h3 : 2 ^ (n + d') ≤ 2 ^ (max (n + d') (n' + d)) := Nat.pow_le_pow_right (by decide) (Nat.le_max_left _ _)
    have h4 : 2 ^ (n' + d) ≤ 2 ^ (max (n + d') (n' + d)) := Nat.pow_le_pow_right (by decide) (Nat.le_max_right _ _)
    rw [Nat.pow_succ]
    omega
  · rw [Int.natAbs_mul, Int.natAbs_natCast, Int.natAbs_natCast, Nat.pow_add]
    exact Nat.mul_le_mul h.den h'.den
theorem Zb.neg {n d : Nat} {a : Rat} (h : Zb n d a) : Zb n d (-a) := ⟨by rw [Rat.neg_num, Int.natAbs_neg]; exact h.num, h.den⟩
theorem Zb.sub {n d n' d' : Nat} {a b : Rat} (h : Zb n d a) (h' : Zb n' d' b) : Zb (max (n + d') (n' + d) + 1) (d + d') (a - b) := by
  rw [Rat.sub_eq_add_neg]
  exact h.add h'.neg
theorem Zb.mul {n d n' d' : Nat} {a b : Rat} (h : Zb n d a) (h' : Zb n' d' b) : Zb (n + n') (d + d') (a * b) := by
  rw [← rat_mulE]
  refine Zb.divInt rat_den_ne ?_ ?_
  · rw [Int.natAbs_mul, Nat.pow_add]
    exact Nat.mul_lt_mul'' h.num h'.num
  · rw [Int.natAbs_mul, Int.natAbs_natCast, Int.natAbs_natCast, Nat.pow_add]
    exact Nat.mul_le_mul h.den h'.den
theorem Zb.int {n : Nat} {i : Int} (h : i.natAbs < 2 ^ n) : Zb n 0 (i : Rat) := ⟨by rw [Rat.num_intCast]; exact h, by rw [Rat.den_intCast]; decide⟩
theorem Zb.ra {n d : Nat} {a : Rat} (h : Zb n d a) : Zb n d (ra a) := by
  unfold Mp.ra
  split
  · exact h.neg
  · exact h
theorem Zb.zero : Zb 0 0 (0 : Rat) := ⟨by decide, by decide⟩
theorem Zb.half : Zb 1 1 (Rat.divInt 1 2) := Zb.divInt (by decide) (by decide) (by decide)
section
variable {Γ : String → Option MDef} {k : Nat} {s : Strm} {Q : D → Strm → Prop}
end
end Mp

namespace Mp
open PySem (Str CmpOp)
/-! ### moves -/
def d_total : MDef := ⟨1, 3, (.cons (.asg (.nm 1) (.mk (.cons (.int 0) .nil))) (.cons (.loop (.nm 2) (.seq (.var 0)) (.cons (.asg (.nm 1) (.bin .add (.var 1) (.var 2))) .nil) [2]) (.cons (.ret (.var 1)) .nil)))⟩
def d_is_less : MDef := ⟨2, 2, (.cons (.ret (.cmp .Lt (.bin .mul (.top (.var 0)) (.bot (.var 1))) (.bin .mul (.top (.var 1)) (.bot (.var 0))))) .nil)⟩
def d_is_negative : MDef := ⟨1, 1, (.cons (.ret (.cmp .Lt (.top (.var 0)) (.int 0))) .nil)⟩
section
variable {Γ : String → Option MDef} {k : Nat} {s : Strm} {Q : D → Strm → Prop}
structure Rw (r : Rat × Rat) : Prop where
  d : Zb 30 20 r.1
  pos : 0 < r.1
  a : Zb 30 20 r.2
/-- the speed behind these rows -/
def vSum (rs : List (Rat × Rat)) : Rat := rs.foldl (fun v r => v + r.2 * r.1) 0
structure MoveOk (rs : List (Rat × Rat)) (d a : Rat) : Prop where
  stop : vSum rs + a * d = 0
  len : rs.length ≤ 5
  all : ∀ r ∈ rs, Rw r
  zd : Zb 30 20 d
  pos : 0 < d
  za : Zb 287 230 a
/-! ### the law's reading of a move -/
end
end Mp

namespace Mp
open PySem (Str CmpOp)
/-! ### the pieces of a move -/
abbrev hf : Rat := Rat.divInt 1 2
structure Pc where
  st : Rat
  en : Rat
  p : Rat
  v : Rat
  a : Rat
def pNext (p v d a : Rat) : Rat := p + v * d + a * hf * d * d
def pcs : List (Rat × Rat) → Rat → Rat → Rat → List Pc
  | [], _, _, _ => []
  | (d, a) :: rs, st, p, v => ⟨st, st + d, p, v, a⟩ :: pcs rs (st + d) (pNext p v d a) (v + a * d)
/-- where the move ends: time, place, speed -/
def pEnd : List (Rat × Rat) → Rat → Rat → Rat → Rat × Rat × Rat
  | [], st, p, v => (st, p, v)
  | (d, a) :: rs, st, p, v => pEnd rs (st + d) (pNext p v d a) (v + a * d)
/-- all operands of one turn -/
structure StepOk (st p v d a : Rat) : Prop where
  sst : Sm st
  sd : Sm d
  sp : Sm p
  sv : Sm v
  sa : Sm a
  vd : Sm (v * d)
  pvd : Sm (p + v * d)
  ah : Sm (a * hf)
  ahd : Sm (a * hf * d)
  ahdd : Sm (a * hf * d * d)
  ad : Sm (a * d)
  dd : Sm (d * d)
  add : Sm (a * (d * d))
  hadd : Sm (hf * (a * (d * d)))
  vh : Sm (v * d + hf * (a * (d * d)))
theorem StepOk.of {st p v d a : Rat} {n1 d1 n2 d2 n3 d3 n4 d4 n5 d5 : Nat} (hs : Zb n1 d1 st) (hp : Zb n2 d2 p) (hv : Zb n3 d3 v) (hd : Zb n4 d4 d) (ha : Zb n5 d5 a)
    (c1 : n1 ≤ 4490) (c2 : d1 < 4490) (c3 : n2 + d3 + d4 + 2 ≤ 4490) (c5 : n3 + n4 + d2 + 2 ≤ 4490) (c6 : d2 + d3 + d4 < 4490) (c4 : n3 + n4 + d5 + 2 * d4 + 3 ≤ 4490 ∧ n5 + 2 * n4 + d3 + d4 + 3 ≤ 4490 ∧ d3 + 3 * d4 + d5 + 3 ≤ 4490) : StepOk st p v d a := by
  have vd := hv.mul hd
  have pvd := hp.add vd
  have ah := ha.mul Zb.half
  have ahd := ah.mul hd
  have ahdd := ahd.mul hd
  have ad := ha.mul hd
  have dd := hd.mul hd
  have add := ha.mul dd
  have hadd := Zb.half.mul add
  have vh := vd.add hadd
  exact ⟨hs.sm c1 c2, hd.sm (by omega) (by omega), hp.sm (by omega) (by omega), hv.sm (by omega) (by omega), ha.sm (by omega) (by omega), vd.sm (by omega) (by omega), pvd.sm (by omega) (by omega), ah.sm (by omega) (by omega), ahd.sm (by omega) (by omega), ahdd.sm (by omega) (by omega), ad.sm (by omega) (by omega), dd.sm (by omega) (by omega), add.sm (by omega) (by omega), hadd.sm (by omega) (by omega), vh.sm (by omega) (by omega)⟩
def Bnd : List (Rat × Rat) → Rat → Rat → Rat → Prop
  | [], _, _, _ => True
  | (d, a) :: rs, st, p, v => StepOk st p v d a ∧ Bnd rs (st + d) (pNext p v d a) (v + a * d)
theorem Zb.next {p v d a : Rat} {n2 d2 n3 d3 n4 d4 n5 d5 : Nat} (hp : Zb n2 d2 p) (hv : Zb n3 d3 v) (hd : Zb n4 d4 d) (ha : Zb n5 d5 a) :
    Zb (max (max (n2 + (d3 + d4)) (n3 + n4 + d2) + 1 + (d5 + 1 + d4 + d4)) (n5 + 1 + n4 + n4 + (d2 + (d3 + d4))) + 1) (d2 + (d3 + d4) + (d5 + 1 + d4 + d4)) (pNext p v d a) :=
  (hp.add (hv.mul hd)).add (((ha.mul Zb.half).mul hd).mul hd)
theorem bnd_of {d a : Rat} (hd : Zb 30 20 d) (ha : Zb 287 230 a) : ∀ (rs : List (Rat × Rat)) (i : Nat) {st p v : Rat}, rs.length + i ≤ 5 → (∀ r ∈ rs, Rw r) → Zb (31 + 21 * i) (20 * i) st → Zb (160 + 290 * i) (241 * i) p → Zb (62 + 41 * i) (40 * i) v → Bnd (rs ++ [(d, a)]) st p v
  | [], i, st, p, v, hi, _, zs, zp, zv => by
    have hi : i ≤ 5 := by simpa using hi
    exact ⟨StepOk.of zs zp zv hd ha (by omega) (by omega) (by omega) (by omega) (by omega) (by omega), trivial⟩
  | (d', a') :: rs, i, st, p, v, hi, hr, zs, zp, zv => by
    rw [List.length_cons] at hi
    obtain ⟨z1, z2, z3⟩ := hr _ List.mem_cons_self
    refine ⟨StepOk.of zs zp zv z1 z3 (by omega) (by omega) (by omega) (by omega) (by omega) (by omega), ?_⟩
    exact bnd_of hd ha rs (i + 1) (by omega) (fun r h => hr r (List.mem_cons_of_mem _ h)) ((zs.add z1).mono (by omega) (by omega)) ((zp.next zv z1 z3).mono (by omega) (by omega)) ((zv.add (z3.mul z1)).mono (by omega) (by omega))
theorem MoveOk.bnd {rs : List (Rat × Rat)} {d a : Rat} (m : MoveOk rs d a) : Bnd (rs ++ [(d, a)]) 0 0 0 := bnd_of m.zd m.za rs 0 m.len m.all (Zb.zero.mono (by omega) (by omega)) (Zb.zero.mono (by omega) (by omega)) (Zb.zero.mono (by omega) (by omega))
section
variable {Γ : String → Option MDef} {k : Nat} {s : Strm} {Q : D → Strm → Prop}
end
end Mp

namespace Mp
open PySem (Str CmpOp)
theorem eqv_pr (a b : Rat) : D.eqv (pr a) (pr b) = some (a == b) := by
  show (match some (a.num == b.num) with | some true => D.eqvs [.int a.den] [.int b.den] | r => r) = _
  by_cases h : a.num = b.num
  · rw [show (a.num == b.num) = true by simpa using h]
    show (match some ((a.den : Int) == b.den) with | some true => D.eqvs [] [] | r => r) = _
    by_cases h2 : a.den = b.den
    · have e : a = b := Rat.ext h h2
      subst e
      simp [D.eqvs]
    · have e : (a == b) = false := by
        rw [beq_eq_false_iff_ne]
        exact fun z => h2 (by rw [z])
      rw [e, show ((a.den : Int) == b.den) = false by rw [beq_eq_false_iff_ne]; omega]
  · have e : (a == b) = false := by
      rw [beq_eq_false_iff_ne]
      exact fun z => h (by rw [z])
    rw [e, show (a.num == b.num) = false by simpa using h]
section
variable {Γ : String → Option MDef} {k : Nat} {s : Strm} {Q : D → Strm → Prop}
theorem V_total (h2 : Γ "total" = some d_total) {xs : List Rat} (f : Rat → List Rat → Rat) (hf0 : ∀ z, f z [] = z) (hf1 : ∀ z x xs, f z (x :: xs) = f (z + x) xs) (B : List Rat → Rat → Prop) (hB : ∀ x xs z, B (x :: xs) z → Sm z ∧ Sm x ∧ B xs (z + x)) (hb : B xs 0) (q : Q (.rat (f 0 xs)) s) : V (callF Γ (k + 1) "total" [.lst false (xs.map .rat)]) s Q := by
  refine V_call h2 rfl ?_
  simp only [d_total]
  walk_at "mp ms"
  have no : D.noOwns (xs.map .rat) = true := by
    generalize xs = ys
    induction ys with
    | nil => rfl
    | cons x xs ih => exact ih
  refine ⟨no, no, ?_⟩
  have loop : ∀ (ys : List Rat) (z : Rat) (mv : D) (R : Fl → Strm → Prop), B ys z → R (.nx [some mv, some (.rat (f z ys)), none]) s →
      V (forL (Bdy (callF Γ k) (.cons (.asg (.nm 1) (.bin .add (.var 1) (.var 2))) .nil)) (.nm 2) [2] (ys.map .rat) [some mv, some (.rat z), none]) s R := by
    intro ys
    induction ys with
    | nil =>
      intro z mv R _ r
      rw [List.map_nil, forL]
      rw [hf0] at r
      exact V_pure.mpr r
    | cons x xs ih =>
      intro z mv R hb r
      obtain ⟨b1, b2, b3⟩ := hB _ _ _ hb
      rw [List.map_cons, forL]
      walk_at "mp ms"
      rw [Bdy_eq]
      walk_at "mp ms"
      rw [hf1] at r
      exact ⟨⟨b1, b2⟩, ih (z + x) mv R b3 r⟩
  refine loop xs 0 (.lst false (xs.map .rat)) _ hb ?_
  walk_at "mp ms"
  exact q
end
end Mp

namespace Mp
open PySem (Str CmpOp)
section
variable {Γ : String → Option MDef} {k : Nat} {s : Strm} {Q : D → Strm → Prop}
theorem V_is_less (h2 : Γ "is_less" = some d_is_less) {a b : Rat} (ha : Sm a) (hb : Sm b) (q : Q (.bl (decide (a < b))) s) : V (callF Γ (k + 1) "is_less" [.rat a, .rat b]) s Q := by
  refine V_call h2 rfl ?_
  simp only [d_is_less]
  walk_at "mp ms"
  refine ⟨sm_mul ha.num (by simpa using hb.den), sm_mul hb.num (by simpa using ha.den), ?_⟩
  have e : decide (a.num * (b.den : Int) < b.num * (a.den : Int)) = decide (a < b) := decide_eq_decide.mpr (Rat.lt_iff a b).symm
  rw [e]
  exact q
/-! ### where a move is -/
theorem ix_last {o : Bool} {ds : List D} {d : D} : ixD (.lst o (ds ++ [d])) (.int (-1)) = pure d := by
  show ofO ((pix (ds ++ [d]).length (-1)).bind fun j => (ds ++ [d])[j]?) = _
  have e : pix (ds ++ [d]).length (-1) = some ds.length := by
    unfold pix
    rw [if_neg (by decide), if_pos (by rw [List.length_append]; simp; omega), List.length_append]
    simp
    omega
  rw [e]
  show ofO ((ds ++ [d])[ds.length]?) = _
  rw [List.getElem?_append_right (Nat.le_refl _), Nat.sub_self]
  rfl
end
theorem V_ok {α : Type} {m : M α} {s : Strm} {Q : α → Strm → Prop} (h : V m s Q) : ∃ a s', m s = .ok a s' ∧ Q a s' := by
  unfold V W at h
  cases e : m s with
  | ok a s' => rw [e] at h; exact ⟨a, s', rfl, h⟩
  | err c s' => rw [e] at h; exact h.elim
  | bad => rw [e] at h; exact h.elim
theorem ints_map : ∀ ns : List Int, intsD (ns.map .int) = some ns
  | [] => rfl
  | n :: ns => by
    show (intsD (ns.map .int)).map (n :: ·) = _
    rw [ints_map ns]; rfl
theorem lawOk_of {Γ : String → Option MDef} {k n : Nat} {rest : MSs} (hs : Γ "_law_stream" = some d__law_stream)
    (h : ∀ (ns : List Int) (s : Strm), ns.length ≤ 63 → Sok s → V (runs (callF Γ (k + 1)) (some (.scr ns) :: some .strm :: List.replicate n none) rest) s fun r _ => r = .ret (.bl true)) : LawOk Γ (k + 1) n rest := by
  intro ns hl
  obtain ⟨d, s', e, rfl, m, m0, m1, rfl⟩ := V_ok (V_stream (k := k) (s := ⟨[], 0, 0, 0⟩) (Q := fun d s' => s' = ⟨[], 0, 0, 0⟩ ∧ ∃ m : Int, 0 ≤ m ∧ m < 2147483647 ∧ d = .lst true [.lst true (ns.map .int), .int 0, .int 0, .int m]) hs (ns := ns) fun m m0 m1 => ⟨rfl, m, m0, m1, rfl⟩)
  refine ⟨_, ⟨ns, 0, 0, m⟩, e, ?_, Nat.le_trans hl (by decide), V_out (h ns _ hl ⟨Int.le_refl _, m0, m1⟩)⟩
  show (intsD (ns.map .int)).map _ = _
  rw [ints_map]; rfl
end Mp

namespace Mp
open PySem (Str CmpOp)
theorem cmpNe_pr (a b : Rat) : cmpD .NotEq (pr a) (pr b) = pure (!(a == b)) := by
  show (do guardM (canC true (pr a) (pr b) = true); let r ← ofO (D.eqv (pr a) (pr b)); pure (!r)) = (pure (!(a == b)) : M Bool)
  rw [eqv_pr]
  rfl
theorem en_of : ∀ (rs : List (Rat × Rat)) (i : Nat) {st p v : Rat}, rs.length + i ≤ 6 → (∀ r ∈ rs, Zb 30 20 r.1) → Zb (31 + 21 * i) (20 * i) st → (∀ x ∈ pcs rs st p v, Zb 157 120 x.en) ∧ Zb 157 120 (pEnd rs st p v).1
  | [], i, st, p, v, hi, _, zs => ⟨fun x h => (by cases h), zs.mono (by have : i ≤ 6 := (by simpa using hi); omega) (by have : i ≤ 6 := (by simpa using hi); omega)⟩
  | (d, a) :: rs, i, st, p, v, hi, hr, zs => by
    rw [List.length_cons] at hi
    have z1 := hr _ List.mem_cons_self
    have z2 : Zb (31 + 21 * (i + 1)) (20 * (i + 1)) (st + d) := (zs.add z1).mono (by omega) (by omega)
    obtain ⟨h1, h2⟩ := en_of rs (i + 1) (st := st + d) (p := pNext p v d a) (v := v + a * d) (by omega) (fun r h => hr r (List.mem_cons_of_mem _ h)) z2
    refine ⟨fun x hx => ?_, h2⟩
    rcases List.mem_cons.mp hx with rfl | hx
    · exact z2.mono (by omega) (by omega)
    · exact h1 x hx
theorem MoveOk.zd' {rs : List (Rat × Rat)} {d a : Rat} (m : MoveOk rs d a) : ∀ r ∈ rs ++ [(d, a)], Zb 30 20 r.1 := by
  intro r hr
  rcases List.mem_append.mp hr with h | h
  · exact (m.all r h).d
  · cases List.mem_singleton.mp h
    exact m.zd
theorem MoveOk.sm {rs : List (Rat × Rat)} {d a : Rat} (m : MoveOk rs d a) : ∀ r ∈ rs ++ [(d, a)], Sm r.1 ∧ Sm r.2 := by
  intro r hr
  rcases List.mem_append.mp hr with h | h
  · exact ⟨(m.all r h).d.sm (by decide) (by decide), (m.all r h).a.sm (by decide) (by decide)⟩
  · cases List.mem_singleton.mp h
    exact ⟨m.zd.sm (by decide) (by decide), m.za.sm (by decide) (by decide)⟩
theorem MoveOk.len' {rs : List (Rat × Rat)} {d a : Rat} (m : MoveOk rs d a) : (rs ++ [(d, a)]).length ≤ 6 := by
  have := m.len
  rw [List.length_append]
  simp
  omega
theorem MoveOk.en {rs : List (Rat × Rat)} {d a : Rat} (m : MoveOk rs d a) : (∀ x ∈ pcs (rs ++ [(d, a)]) 0 0 0, Zb 157 120 x.en) ∧ Zb 157 120 (pEnd (rs ++ [(d, a)]) 0 0 0).1 :=
  en_of _ 0 (by have := m.len'; omega) m.zd' (Zb.zero.mono (by omega) (by omega))
theorem range_get {lo : Int} {n j : Nat} {x : D} (h : (rangeD lo n)[j]? = some x) : j < n ∧ x = .int (lo + j) := by
  unfold rangeD at h
  rw [List.getElem?_map] at h
  cases q : (List.range n)[j]? with
  | none => rw [q] at h; cases h
  | some z =>
    rw [q] at h
    cases h
    obtain ⟨h1, h2⟩ := List.getElem?_eq_some_iff.mp q
    rw [List.getElem_range] at h2
    subst h2
    rw [List.length_range] at h1
    exact ⟨h1, rfl⟩
end Mp

namespace Mp
open PySem (Str CmpOp)
/-! ### the words of the laws about regions -/
def d_products : MDef := ⟨2, 4, (.cons (.ret (.call "total" (.cons (.lc (.tup [2, 3]) (.zip (.var 0) (.var 1)) .nop (.bin .mul (.var 2) (.var 3))) .nil))) .nil)⟩
def d_form_value : MDef := ⟨2, 2, (.cons (.ret (.bin .add (.call "products" (.cons (.ix (.var 0) (.int 0)) (.cons (.var 1) .nil))) (.ix (.var 0) (.int 1)))) .nil)⟩
def d__law_divisor : MDef := ⟨2, 3, (.cons (.asg (.nm 0) (.bi .abs (.cons (.var 0) .nil))) (.cons (.asg (.nm 1) (.bi .abs (.cons (.var 1) .nil))) (.cons (.loop (.nm 2) (.rng (.int 5000)) (.cons (.ite (.cmp .Eq (.var 1) (.int 0)) (.cons .brk .nil) .nil) (.cons (.par 0 1 (.var 1) (.bin .mod (.bi .int (.cons (.var 0) .nil)) (.var 1))) .nil)) [2]) (.cons (.ret (.var 0)) .nil))))⟩
def d__law_q : MDef := ⟨2, 3, (.cons (.ite (.cmp .Lt (.var 1) (.int 0)) (.cons (.asg (.nm 0) (.neg (.var 0))) (.cons (.asg (.nm 1) (.neg (.var 1))) .nil)) .nil) (.cons (.asg (.nm 2) (.call "_law_divisor" (.cons (.var 0) (.cons (.var 1) .nil)))) (.cons (.ret (.tup (.cons (.bin .fdiv (.var 0) (.var 2)) (.cons (.bin .fdiv (.var 1) (.var 2)) .nil)))) .nil)))⟩
def d__law_add : MDef := ⟨2, 2, (.cons (.ret (.call "_law_q" (.cons (.bin .add (.bin .mul (.ix (.var 0) (.int 0)) (.ix (.var 1) (.int 1))) (.bin .mul (.ix (.var 1) (.int 0)) (.ix (.var 0) (.int 1)))) (.cons (.bin .mul (.ix (.var 0) (.int 1)) (.ix (.var 1) (.int 1))) .nil)))) .nil)⟩
def d__law_mul : MDef := ⟨2, 2, (.cons (.ret (.call "_law_q" (.cons (.bin .mul (.ix (.var 0) (.int 0)) (.ix (.var 1) (.int 0))) (.cons (.bin .mul (.ix (.var 0) (.int 1)) (.ix (.var 1) (.int 1))) .nil)))) .nil)⟩
def d__law_as : MDef := ⟨1, 1, (.cons (.ret (.mk (.cons (.ix (.var 0) (.int 0)) (.cons (.ix (.var 0) (.int 1)) .nil)))) .nil)⟩
def r__law_pair : MDef := ⟨1, 1, (.cons (.ite (.not (.isi (.var 0) .ratio)) (.cons (.ret .non) .nil) .nil) (.cons (.ret (.tup (.cons (.top (.var 0)) (.cons (.bot (.var 0)) .nil)))) .nil))⟩
def r__law_number : MDef := ⟨1, 1, (.cons (.ite (.cmp .Eq (.call "_law_draw" (.cons (.var 0) (.cons (.int 2) .nil))) (.int 0)) (.cons (.ret (.tup (.cons (.bin .sub (.call "_law_draw" (.cons (.var 0) (.cons (.int 9) .nil))) (.int 4)) (.cons (.int 1) .nil)))) .nil) .nil) (.cons (.ret (.call "_law_q" (.cons (.bin .sub (.call "_law_draw" (.cons (.var 0) (.cons (.int 19) .nil))) (.int 9)) (.cons (.bin .add (.int 1) (.call "_law_draw" (.cons (.var 0) (.cons (.int 6) .nil)))) .nil)))) .nil))⟩
def r__law_value : MDef := ⟨2, 4, (.cons (.asg (.nm 2) (.ix (.var 0) (.int 1))) (.cons (.loop (.nm 3) (.rng (.bi .len (.cons (.var 1) .nil))) (.cons (.asg (.nm 2) (.call "_law_add" (.cons (.var 2) (.cons (.call "_law_mul" (.cons (.ix (.ix (.var 0) (.int 0)) (.var 3)) (.cons (.ix (.var 1) (.var 3)) .nil))) .nil)))) .nil) [3]) (.cons (.ret (.var 2)) .nil)))⟩

theorem Zk.add {a b : Nat} {x y : Rat} (h : Zb a a x) (h' : Zb b b y) : Zb (a + b + 1) (a + b + 1) (x + y) := (Zb.add h h').mono (by omega) (by omega)
theorem Zk.mul {a b : Nat} {x y : Rat} (h : Zb a a x) (h' : Zb b b y) : Zb (a + b) (a + b) (x * y) := Zb.mul h h'
theorem Zk.sm {a : Nat} {x : Rat} (h : Zb a a x) (c : a < 4490) : Sm x := Zb.sm h (by omega) c
theorem noOwns_rats' : ∀ (rs : List Rat), D.noOwns (rs.map .rat) = true
  | [] => rfl
  | _ :: rs => noOwns_rats' rs
theorem strips_rats' : ∀ (rs : List Rat), D.strips (rs.map .rat) = rs.map .rat
  | [] => rfl
  | r :: rs => congrArg (D.rat r :: ·) (strips_rats' rs)
theorem noShrs_rats' : ∀ (rs : List Rat), D.noShrs (rs.map .rat) = true
  | [] => rfl
  | _ :: rs => noShrs_rats' rs
theorem noOwns_prs' : ∀ xs : List Rat, D.noOwns (xs.map pr) = true
  | [] => rfl
  | _ :: xs => noOwns_prs' xs
theorem strips_prs' : ∀ xs : List Rat, D.strips (xs.map pr) = xs.map pr
  | [] => rfl
  | x :: xs => congrArg (pr x :: ·) (strips_prs' xs)
theorem pr_i' (v : Int) : D.tup [.int v, .int 1] = pr (v : Rat) := rfl
def fb : Nat → Nat
  | 0 => 0
  | 1 => 1
  | n + 2 => fb (n + 1) + fb n
theorem fb_mono1 : ∀ n, fb n ≤ fb (n + 1)
  | 0 => Nat.zero_le _
  | n + 1 => Nat.le_add_right _ _
theorem fb_mono {n m : Nat} (h : n ≤ m) : fb n ≤ fb m := by
  induction m with
  | zero => rw [Nat.le_zero.mp h]; exact Nat.le_refl _
  | succ m ih =>
    rcases Nat.lt_or_eq_of_le h with h | h
    · exact Nat.le_trans (ih (by omega)) (fb_mono1 m)
    · rw [h]; exact Nat.le_refl _
theorem fb_grow (n : Nat) : 2 ^ 15 * fb n ≤ fb (n + 23) := by
  have h : ∀ k, fb (k + 2) = fb (k + 1) + fb k := fun _ => rfl
  have h0 := fb_mono1 n
  have h1 : fb (n + 2) = fb (n + 1) + fb (n) := h (n)
  have h2 : fb (n + 3) = fb (n + 2) + fb (n + 1) := h (n + 1)
  have h3 : fb (n + 4) = fb (n + 3) + fb (n + 2) := h (n + 2)
  have h4 : fb (n + 5) = fb (n + 4) + fb (n + 3) := h (n + 3)
  have h5 : fb (n + 6) = fb (n + 5) + fb (n + 4) := h (n + 4)
  have h6 : fb (n + 7) = fb (n + 6) + fb (n + 5) := h (n + 5)
  have h7 : fb (n + 8) = fb (n + 7) + fb (n + 6) := h (n + 6)
  have h8 : fb (n + 9) = fb (n + 8) + fb (n + 7) := h (n + 7)
  have h9 : fb (n + 10) = fb (n + 9) + fb (n + 8) := h (n + 8)
  have h10 : fb (n + 11) = fb (n + 10) + fb (n + 9) := h (n + 9)
  have h11 : fb (n + 12) = fb (n + 11) + fb (n + 10) := h (n + 10)
  have h12 : fb (n + 13) = fb (n + 12) + fb (n + 11) := h (n + 11)
  have h13 : fb (n + 14) = fb (n + 13) + fb (n + 12) := h (n + 12)
  have h14 : fb (n + 15) = fb (n + 14) + fb (n + 13) := h (n + 13)
  have h15 : fb (n + 16) = fb (n + 15) + fb (n + 14) := h (n + 14)
  have h16 : fb (n + 17) = fb (n + 16) + fb (n + 15) := h (n + 15)
  have h17 : fb (n + 18) = fb (n + 17) + fb (n + 16) := h (n + 16)
  have h18 : fb (n + 19) = fb (n + 18) + fb (n + 17) := h (n + 17)
  have h19 : fb (n + 20) = fb (n + 19) + fb (n + 18) := h (n + 18)
  have h20 : fb (n + 21) = fb (n + 20) + fb (n + 19) := h (n + 19)
  have h21 : fb (n + 22) = fb (n + 21) + fb (n + 20) := h (n + 20)
  have h22 : fb (n + 23) = fb (n + 22) + fb (n + 21) := h (n + 21)
  omega
theorem fb_pow : ∀ k, 2 ^ (15 * k) ≤ fb (1 + 23 * k)
  | 0 => Nat.le_refl _
  | k + 1 => by
    have h := fb_pow k
    have g := fb_grow (1 + 23 * k)
    rw [show 15 * (k + 1) = 15 + 15 * k by omega, Nat.pow_add, show 1 + 23 * (k + 1) = 1 + 23 * k + 23 by omega]
    exact Nat.le_trans (Nat.mul_le_mul_left _ h) g
theorem fb_big : 2 ^ 3250 ≤ fb (4999 + 1) := by
  have h := fb_pow 217
  exact Nat.le_trans (Nat.pow_le_pow_right (by decide) (by decide)) (Nat.le_trans h (fb_mono (by decide)))
section
variable {Γ : String → Option MDef} {k : Nat} {s : Strm} {Q : D → Strm → Prop}
theorem V_divisor (h2 : Γ "_law_divisor" = some d__law_divisor) {a b : Int} (hb : b.natAbs < 2 ^ 3250) (q : Q (.int (Int.gcd a b)) s) : V (callF Γ (k + 1) "_law_divisor" [.int a, .int b]) s Q := by
  refine V_call h2 rfl ?_
  simp only [d__law_divisor]
  walk_at "mp nx"
  walk_at "mp nx"
  walk_at "mp nx"
  refine ⟨by decide, range_noOwn, ?_⟩
  generalize hB : Bdy (callF Γ k) _ = B
  generalize hN : Nxt (callF Γ k) _ _ = N
  have fin : ∀ g : Int, g = Int.gcd a b → N (.nx [some (.int g), some (.int 0), none]) s := by
    rintro g rfl
    rw [← hN]
    walk_at "mp nx"
    exact q
  have stop : ∀ (x : D) (xs : List D) (a : Int), N (.nx [some (.int a), some (.int 0), none]) s → V (forL B (.nm 2) [2] (x :: xs) [some (.int a), some (.int 0), none]) s N := by
    intro x xs a h
    rw [forL]
    walk_at "mp mn"
    rw [← congrFun hB, Bdy_eq]
    walk_at "mp nx"
    exact h
  have turn : ∀ (x : D) (xs : List D) (a b : Int), b ≠ 0 → V (forL B (.nm 2) [2] xs [some (.int b), some (.int (a.fmod b)), none]) s N → V (forL B (.nm 2) [2] (x :: xs) [some (.int a), some (.int b), none]) s N := by
    intro x xs a b hb h
    rw [forL]
    walk_at "mp mn"
    rw [← congrFun hB, Bdy_eq]
    walk_at "mp nx"
    rw [if_neg (by simpa using hb)]
    walk_at "mp nx"
    exact ⟨hb, h⟩
  have key : ∀ (m : Nat) (xs : List D) (a b : Int), 0 ≤ a → 0 ≤ b → (b < (fb (m + 1) : Nat) ∨ (b ≤ a ∧ a < (fb (m + 2) : Nat))) → m + 1 ≤ xs.length → N (.nx [some (.int (Int.gcd a b)), some (.int 0), none]) s → V (forL B (.nm 2) [2] xs [some (.int a), some (.int b), none]) s N := by
    have stop' : ∀ (xs : List D) (a : Int), 0 ≤ a → 1 ≤ xs.length → N (.nx [some (.int (Int.gcd a 0)), some (.int 0), none]) s → V (forL B (.nm 2) [2] xs [some (.int a), some (.int 0), none]) s N := by
      intro xs a ha hl h
      rw [Int.gcd_zero_right, Int.natAbs_of_nonneg ha] at h
      cases xs with
      | nil => simp at hl
      | cons x xs => exact stop x xs a h
    intro m
    induction m with
    | zero =>
      intro xs a b ha hb0 hm hl h
      have f1 : fb (0 + 1) = 1 := rfl
      have f2 : fb (0 + 2) = 1 := rfl
      rw [f1, f2] at hm
      have : b = 0 := by omega
      subst this
      exact stop' xs a ha hl h
    | succ m ih =>
      intro xs a b ha hb0 hm hl h
      by_cases h0 : b = 0
      · subst h0
        exact stop' xs a ha (by omega) h
      · have hp : 0 < b := by omega
        cases xs with
        | nil => simp at hl
        | cons x xs =>
          rw [List.length_cons] at hl
          refine turn x _ a b h0 ?_
          have r0 := Int.fmod_nonneg_of_pos a hp
          have r1 := Int.fmod_lt_of_pos a hp
          have g1 := gcd_step (a := a) (b := b)
          have e : a.fmod b = a - b * a.fdiv b := Int.fmod_def a b
          have t2 : b ≤ a → a.fmod b ≤ a - b := fun hab => by
            have d1 : 1 ≤ a.fdiv b := by
              rw [Int.fdiv_eq_ediv_of_nonneg _ (by omega)]
              exact Int.le_ediv_of_mul_le hp (by omega)
            rw [e]
            have := Int.mul_le_mul_of_nonneg_left d1 (Int.le_of_lt hp)
            omega
          generalize a.fmod b = r at r0 r1 g1 t2 ⊢
          have f3 : fb (m + 1 + 2) = fb (m + 2) + fb (m + 1) := rfl
          rw [f3] at hm
          refine ih xs b r (by omega) r0 ?_ (by omega) (by rw [g1]; exact h)
          rcases hm with hm | ⟨hab, hm⟩
          · exact .inr ⟨by omega, hm⟩
          · by_cases hc : b < (fb (m + 2) : Nat)
            · exact .inr ⟨by omega, hc⟩
            · have := t2 hab
              exact .inl (by omega)
  have hlen : (rangeD 0 (5000 : Int).toNat).length = 5000 := by unfold rangeD; simp
  have e1 : (if a < 0 then -a else a) = (a.natAbs : Int) := by split <;> omega
  have e2 : (if b < 0 then -b else b) = (b.natAbs : Int) := by split <;> omega
  rw [e1, e2]
  refine key 4999 _ _ _ (by omega) (by omega) (.inl ?_) (by rw [hlen]; decide) (fin _ ?_)
  · have := Nat.lt_of_lt_of_le hb fb_big
    exact_mod_cast this
  simp [Int.gcd]
theorem V_q (hdv : Γ "_law_divisor" = some d__law_divisor) (h2 : Γ "_law_q" = some d__law_q) {n d : Int} (hd : d ≠ 0) (hl : d.natAbs < 2 ^ 3250) (q : Q (pr (Rat.divInt n d)) s) : V (callF Γ (k + 2) "_law_q" [.int n, .int d]) s Q := by
  refine V_call h2 rfl ?_
  have lg : ∀ z : Int, z ≠ 0 → z.natAbs < 2 ^ 3250 → z.natAbs.log2 < 9000 := fun z z0 hz => by
    have := (Nat.log2_lt (n := z.natAbs) (by omega)).mpr hz
    omega
  have fin : ∀ (n d : Int), 0 < d → d.natAbs < 2 ^ 3250 → Q (pr (Rat.divInt n d)) s → V (callF Γ (k + 1) "_law_divisor" [.int n, .int d]) s fun a s' => ((Int.gcd n d : Int) = (Int.gcd n d : Int) ∧ a = .int (Int.gcd n d)) ∧ s' = s := by
    intro n d hd hl q
    exact V_divisor hdv hl ⟨⟨rfl, rfl⟩, rfl⟩
  simp only [d__law_q]
  walk_at "mp mn"
  generalize hM : Nxt (callF Γ (k + 1)) (MSs.cons (MS.asg (Tg.nm 2) _) _) _ = M
  have go : ∀ (n d : Int), 0 < d → d.natAbs < 2 ^ 3250 → Q (pr (Rat.divInt n d)) s → M (.nx [some (.int n), some (.int d), none]) s := by
    intro n d hd hl q
    rw [← hM]
    walk_at "mp nx"
    refine V_divisor hdv hl ?_
    walk_at "mp nx"
    have dn := dvr_num (n := n) (d := d) (by omega)
    have dd := dvr_den (n := n) (d := d) (by omega)
    have dne := dvr_ne (n := n) (d := d) (by omega)
    have dlg := dvr_log (n := n) (d := d) (by omega) (lg d (by omega) hl)
    have eg : dvr n d = (Int.gcd n d : Int) := by
      unfold dvr
      rw [if_neg (by omega)]
    rw [eg] at dn dd dne dlg
    rw [dn, dd]
    exact ⟨⟨dne, dlg⟩, ⟨dne, dlg⟩, q⟩
  by_cases h0 : d < 0
  · rw [if_pos (decide_eq_true h0)]
    have e : Rat.divInt (-n) (-d) = Rat.divInt n d := by rw [Rat.divInt_neg', Int.neg_neg]
    walk_at "mp nx"
    exact go (-n) (-d) (by omega) (by omega) (by rw [e]; exact q)
  · rw [if_neg (by simpa using h0)]
    walk_at "mp mn"
    exact go n d (by omega) hl q
theorem V_radd (hdv : Γ "_law_divisor" = some d__law_divisor) (hq : Γ "_law_q" = some d__law_q) (h2 : Γ "_law_add" = some d__law_add) {a b : Rat} {m n : Nat} (ha : Zb m m a) (hb : Zb n n b) (c : m + n < 3250) (q : Q (pr (a + b)) s) : V (callF Γ (k + 3) "_law_add" [pr a, pr b]) s Q := by
  refine V_call h2 rfl ?_
  simp only [d__law_add, pr]
  walk_at "mp ms"
  have sa := Zk.sm ha (by omega)
  have sb := Zk.sm hb (by omega)
  have hd : ((a.den : Int) * (b.den : Int)).natAbs < 2 ^ 3250 := by
    rw [Int.natAbs_mul, Int.natAbs_natCast, Int.natAbs_natCast]
    refine Nat.lt_of_le_of_lt (Nat.mul_le_mul ha.den hb.den) ?_
    rw [← Nat.pow_add]
    exact Nat.pow_lt_pow_right (by decide) c
  refine ⟨sm_mul sa.num (by simpa using sb.den), sm_mul sb.num (by simpa using sa.den), sm_mul (by simpa using sa.den) (by simpa using sb.den), V_q hdv hq rat_den_ne hd ?_⟩
  rw [rat_addE]
  exact q
theorem V_rmul (hdv : Γ "_law_divisor" = some d__law_divisor) (hq : Γ "_law_q" = some d__law_q) (h2 : Γ "_law_mul" = some d__law_mul) {a b : Rat} {m n : Nat} (ha : Zb m m a) (hb : Zb n n b) (c : m + n < 3250) (q : Q (pr (a * b)) s) : V (callF Γ (k + 3) "_law_mul" [pr a, pr b]) s Q := by
  refine V_call h2 rfl ?_
  simp only [d__law_mul, pr]
  walk_at "mp ms"
  have sa := Zk.sm ha (by omega)
  have sb := Zk.sm hb (by omega)
  have hd : ((a.den : Int) * (b.den : Int)).natAbs < 2 ^ 3250 := by
    rw [Int.natAbs_mul, Int.natAbs_natCast, Int.natAbs_natCast]
    refine Nat.lt_of_le_of_lt (Nat.mul_le_mul ha.den hb.den) ?_
    rw [← Nat.pow_add]
    exact Nat.pow_lt_pow_right (by decide) c
  refine ⟨sm_mul sa.num sb.num, sm_mul (by simpa using sa.den) (by simpa using sb.den), V_q hdv hq rat_den_ne hd ?_⟩
  rw [rat_mulE]
  exact q
theorem V_as (h2 : Γ "_law_as" = some d__law_as) {a : Rat} (ha : Sm a) (q : Q (.rat a) s) : V (callF Γ (k + 1) "_law_as" [pr a]) s Q := by
  refine V_call h2 rfl ?_
  simp only [d__law_as, pr]
  walk_at "mp ms"
  have h1 : (a.den : Int) ≠ 0 := by have := a.den_nz; omega
  rw [if_neg h1]
  refine ⟨?_, ?_⟩
  · rw [Int.natAbs_natCast]
    have := log_bit ha.den
    omega
  · rw [Rat.num_divInt_den]
    exact q
theorem V_rpair (h2 : Γ "_law_pair" = some r__law_pair) {a : Rat} (q : Q (pr a) s) : V (callF Γ (k + 1) "_law_pair" [.rat a]) s Q := by
  refine V_call h2 rfl ?_
  simp only [r__law_pair]
  walk_at "mp ms"
  exact q
/-! ### sums of products -/
def dotR (as bs : List Rat) (z : Rat) : Rat := (List.zipWith (· * ·) as bs).foldl (· + ·) z
theorem zipD_rats : ∀ (as bs : List Rat), zipD (as.map .rat) (bs.map .rat) = (List.zip as bs).map fun p => D.tup [.rat p.1, .rat p.2]
  | [], _ => by simp [zipD]
  | a :: as, [] => by simp [zipD]
  | a :: as, b :: bs => by
    show D.tup [.rat a, .rat b] :: zipD (as.map .rat) (bs.map .rat) = _
    rw [zipD_rats as bs]
    rfl
theorem V_totalZ (h2 : Γ "total" = some d_total) {xs : List Rat} {m : Nat} (hx : ∀ x ∈ xs, Zb m m x) (c : (m + 1) * (xs.length + 1) < 4490) (q : Q (.rat (xs.foldl (· + ·) 0)) s) : V (callF Γ (k + 1) "total" [.lst false (xs.map .rat)]) s Q := by
  refine V_total (k := k) h2 (f := fun z xs => xs.foldl (· + ·) z) (fun _ => rfl) (fun _ _ _ => rfl) (fun xs z => (∀ x ∈ xs, Zb m m x) ∧ ∃ i, Zb ((m + 1) * i) ((m + 1) * i) z ∧ (m + 1) * (i + xs.length + 1) < 4490) (fun x xs z h => ?_) ⟨hx, 0, Zb.zero.mono (by omega) (by omega), by rw [Nat.zero_add]; exact c⟩ q
  obtain ⟨h1, i, h3, h4⟩ := h
  have zx := h1 x List.mem_cons_self
  rw [List.length_cons] at h4
  have e1 : (m + 1) * (i + (xs.length + 1) + 1) = (m + 1) * i + (m + 1) * (xs.length + 2) := by rw [← Nat.mul_add]; rfl
  have e2 : (m + 1) * (xs.length + 2) = (m + 1) * xs.length + (m + 1) * 2 := Nat.mul_add ..
  refine ⟨Zk.sm h3 (by omega), Zk.sm zx (by omega), fun y hy => h1 y (List.mem_cons_of_mem _ hy), i + 1, ?_, by rw [show i + 1 + xs.length + 1 = i + (xs.length + 1) + 1 by omega]; exact h4⟩
  have e3 : (m + 1) * (i + 1) = (m + 1) * i + m + 1 := by rw [Nat.mul_add]; omega
  rw [e3]
  exact Zk.add h3 zx
theorem V_products (ht : Γ "total" = some d_total) (h2 : Γ "products" = some d_products) {as bs : List Rat} {o : D} {m n : Nat} (ho : o = .tup (as.map .rat) ∨ o = .lst false (as.map .rat)) (ha : ∀ x ∈ as, Zb m m x) (hb : ∀ x ∈ bs, Zb n n x) (c : (m + n + 1) * (as.length + 1) < 4490) (q : Q (.rat (dotR as bs 0)) s) : V (callF Γ (k + 2) "products" [o, .lst false (bs.map .rat)]) s Q := by
  refine V_call h2 rfl ?_
  simp only [d_products]
  have hz : ∀ p ∈ List.zip as bs, Zb m m p.1 ∧ Zb n n p.2 := fun p hp => ⟨ha _ (List.of_mem_zip hp).1, hb _ (List.of_mem_zip hp).2⟩
  have hl : (List.zip as bs).length ≤ as.length := by rw [List.length_zip]; omega
  have la : as.length < 4490 := by
    have := Nat.le_mul_of_pos_left (as.length + 1) (show 0 < m + n + 1 by omega)
    omega
  have no : ∀ ps : List (Rat × Rat), D.noOwns (ps.map fun p => D.tup [.rat p.1, .rat p.2]) = true := by
    intro ps
    induction ps with
    | nil => rfl
    | cons p ps ih => exact ih
  have fin : V (lcD (Elm (callF Γ (k + 1)) [some o, some (.lst false (bs.map .rat)), none, none] (.tup [2, 3]) .nop (.bin .mul (.var 2) (.var 3))) ((List.zip as bs).map fun p => D.tup [.rat p.1, .rat p.2])) s fun a s' => V (callF Γ (k + 1) "total" [.lst false (D.strips a)]) s' fun a_1 s' => a_1.noShr = true ∧ Q a_1 s' := by
    refine V_map (g := fun x => match x with | .tup [.rat a, .rat b] => .rat (a * b) | x => x) _ (fun x hx R hR => ?_) ?_
    · obtain ⟨p, hp, rfl⟩ := List.mem_map.mp hx
      obtain ⟨z1, z2⟩ := hz p hp
      have c2 : m + n + 1 < 4490 := Nat.lt_of_le_of_lt (Nat.le_mul_of_pos_right _ (Nat.succ_pos _)) c
      rw [Elm_eq]
      walk_at "mp ms"
      exact ⟨⟨Zk.sm z1 (by omega), Zk.sm z2 (by omega)⟩, hR⟩
    · rw [List.map_map]
      have e : (List.zip as bs).map ((fun x => match x with | .tup [.rat a, .rat b] => .rat (a * b) | x => x) ∘ fun p => D.tup [.rat p.1, .rat p.2]) = (List.zipWith (· * ·) as bs).map D.rat := by
        rw [← List.map_uncurry_zip_eq_zipWith, List.map_map]
        rfl
      rw [e, strips_rats']
      have lz : (List.zipWith (· * ·) as bs).length = (List.zip as bs).length := by rw [List.length_zipWith, List.length_zip]
      refine V_totalZ (k := k) (m := m + n) ht (fun x hx => ?_) ?_ ?_
      · rw [← List.map_uncurry_zip_eq_zipWith] at hx
        obtain ⟨p, hp, rfl⟩ := List.mem_map.mp hx
        exact Zk.mul (hz p hp).1 (hz p hp).2
      · rw [lz]
        exact Nat.lt_of_le_of_lt (Nat.mul_le_mul_left _ (by omega)) c
      · exact ⟨rfl, q⟩
  rcases ho with rfl | rfl
  · walk_at "mp mn"
    refine ⟨noOwns_rats' as, noOwns_rats' bs, ⟨noOwns_rats' as, noOwns_rats' bs⟩, ?_⟩
    rw [zipD_rats]
    refine ⟨⟨by rw [List.length_map]; exact Nat.le_trans (show (List.zip as bs).length ≤ 4490 by omega) (by decide), no _⟩, ?_⟩
    exact fin
  · walk_at "mp mn"
    refine ⟨noOwns_rats' as, noOwns_rats' bs, ⟨noOwns_rats' as, noOwns_rats' bs⟩, ?_⟩
    rw [zipD_rats]
    refine ⟨⟨by rw [List.length_map]; exact Nat.le_trans (show (List.zip as bs).length ≤ 4490 by omega) (by decide), no _⟩, ?_⟩
    exact fin
def encFm (ln : List Rat) (c : Rat) : D := .tup [.tup (ln.map .rat), .rat c]
def encFl (ln : List Rat) (c : Rat) : D := .tup [.tup (ln.map pr), pr c]
theorem V_form_value (ht : Γ "total" = some d_total) (hpr : Γ "products" = some d_products) (h2 : Γ "form_value" = some d_form_value) {ln p : List Rat} {c : Rat} {m n : Nat} (ha : ∀ x ∈ ln, Zb m m x) (hc : Zb m m c) (hb : ∀ x ∈ p, Zb n n x) (hd : Sm (dotR ln p 0)) (hk : (m + n + 1) * (ln.length + 1) < 4490) (q : Q (.rat (dotR ln p 0 + c)) s) :
    V (callF Γ (k + 3) "form_value" [encFm ln c, .lst false (p.map .rat)]) s Q := by
  refine V_call h2 rfl ?_
  simp only [d_form_value, encFm]
  walk_at "mp mn"
  rw [show D.strips (ln.map .rat) = ln.map .rat from strips_rats' ln, show D.strips (p.map .rat) = p.map .rat from strips_rats' p]
  refine V_products (k := k) ht hpr (.inl rfl) ha hb hk ?_
  walk_at "mp mn"
  have c2 : m + n + 1 < 4490 := Nat.lt_of_le_of_lt (Nat.le_mul_of_pos_right _ (Nat.succ_pos _)) hk
  exact ⟨⟨hd, Zk.sm hc (by omega)⟩, q⟩
/-- the sum of products, for its size -/
theorem dot_zb {as bs : List Rat} {m n : Nat} (ha : ∀ x ∈ as, Zb m m x) (hb : ∀ x ∈ bs, Zb n n x) : ∀ {z : Rat} {i : Nat}, Zb ((m + n + 1) * i) ((m + n + 1) * i) z → Zb ((m + n + 1) * (i + as.length)) ((m + n + 1) * (i + as.length)) (dotR as bs z) := by
  induction as generalizing bs with
  | nil =>
    intro z i h
    exact h
  | cons a as ih =>
    intro z i h
    cases bs with
    | nil => exact h.mono (Nat.mul_le_mul_left _ (by omega)) (Nat.mul_le_mul_left _ (by omega))
    | cons b bs =>
      have h1 := Zk.mul (ha a List.mem_cons_self) (hb b List.mem_cons_self)
      have h2 : Zb ((m + n + 1) * (i + 1)) ((m + n + 1) * (i + 1)) (z + a * b) := by
        rw [show (m + n + 1) * (i + 1) = (m + n + 1) * i + (m + n) + 1 by rw [Nat.mul_add]; omega]
        exact Zk.add h h1
      have := ih (bs := bs) (fun x hx => ha x (List.mem_cons_of_mem _ hx)) (fun x hx => hb x (List.mem_cons_of_mem _ hx)) h2
      rw [List.length_cons, show i + (as.length + 1) = i + 1 + as.length by omega]
      exact this
/-! ### values of quadratics -/
def rowS (p : List Rat) (u : Rat) : List Rat → Nat → Rat → Rat
  | [], _, z => z
  | a :: as, j, z => rowS p u as (j + 1) (z + a * u * p.getD j 0)
def sqS (p : List Rat) : List (List Rat) → Nat → Rat → Rat
  | [], _, z => z
  | row :: rows, i, z => sqS p rows (i + 1) (rowS p (p.getD i 0) row 0 z)
theorem pr_get {p : List Rat} {j : Nat} (h : j < p.length) : (p.map pr)[j]? = some (pr (p.getD j 0)) := by
  rw [List.getElem?_map, List.getElem?_eq_getElem h, List.getD_eq_getElem?_getD, List.getElem?_eq_getElem h]
  rfl
theorem getD_zb {p : List Rat} {n j : Nat} (hp : ∀ x ∈ p, Zb n n x) : Zb n n (p.getD j 0) := by
  rw [List.getD_eq_getElem?_getD]
  cases h : p[j]? with
  | none => exact Zb.zero.mono (by omega) (by omega)
  | some x => exact hp x (List.mem_of_getElem? h)
end
end Mp

namespace Mp
open PySem (Str CmpOp)
/-! ### the laws' own values of quadratics -/
def d__law_form_as : MDef := ⟨1, 2, (.cons (.ret (.tup (.cons (.bi .tuple (.cons (.lc (.nm 1) (.seq (.ix (.var 0) (.int 0))) .nop (.call "_law_as" (.cons (.var 1) .nil))) .nil)) (.cons (.call "_law_as" (.cons (.ix (.var 0) (.int 1)) .nil)) .nil)))) .nil)⟩
theorem fl_noOwn (ln : List Rat) (c : Rat) : (encFl ln c).noOwn = true := by
  show (D.noOwns (ln.map pr) && true) = true
  rw [noOwns_prs']
  rfl
theorem fl_strip (ln : List Rat) (c : Rat) : (encFl ln c).strip = encFl ln c := by
  show D.tup [.tup (D.strips (ln.map pr)), pr c] = _
  rw [strips_prs']
  rfl
theorem dot_snoc : ∀ (as bs : List Rat) (a b z : Rat), as.length = bs.length → dotR (as ++ [a]) (bs ++ [b]) z = dotR as bs z + a * b
  | [], [], _, _, _, _ => rfl
  | _ :: as, _ :: bs, a, b, z, h => dot_snoc as bs a b _ (Nat.succ.inj h)
theorem take_snoc {p : List Rat} {i : Nat} (h : i < p.length) : p.take (i + 1) = p.take i ++ [p.getD i 0] := by
  rw [List.take_succ, List.getElem?_eq_getElem h, List.getD_eq_getElem?_getD, List.getElem?_eq_getElem h]
  rfl
section
variable {Γ : String → Option MDef} {k : Nat} {s : Strm} {Q : D → Strm → Prop}
theorem V_rvalue (hdv : Γ "_law_divisor" = some d__law_divisor) (hq : Γ "_law_q" = some d__law_q) (had : Γ "_law_add" = some d__law_add) (hmu : Γ "_law_mul" = some d__law_mul) (h2 : Γ "_law_value" = some r__law_value) {ln p : List Rat} {c : Rat} {m n : Nat} (o : Bool) (hl : ln.length = p.length) (ha : ∀ x ∈ ln, Zb m m x) (hc : Zb m m c) (hb : ∀ x ∈ p, Zb n n x) (hk : (m + n + 1) * (p.length + 2) < 2300) (q : Q (pr (dotR ln p c)) s) :
    V (callF Γ (k + 4) "_law_value" [encFl ln c, .lst false (p.map pr)]) s Q := by
  refine V_call h2 rfl ?_
  simp only [r__law_value]
  have kt : ∀ i, i ≤ p.length + 2 → (m + n + 1) * i < 2300 := fun i hi => Nat.lt_of_le_of_lt (Nat.mul_le_mul_left _ hi) hk
  have lp : p.length < 2300 := by
    have := Nat.le_mul_of_pos_left (p.length + 2) (show 0 < m + n + 1 by omega)
    omega
  rw [show encFl ln c = .tup [.tup (ln.map pr), pr c] from rfl]
  walk_at "mp nx"
  walk_at "mp nx"
  refine ⟨noOwns_prs' p, ?_⟩
  rw [List.length_map]
  have hlim : (LIM : Int) = 1000000 := rfl
  refine ⟨⟨by omega, by omega⟩, range_noOwn, ?_⟩
  generalize hN : Nxt (callF Γ (k + 3)) _ _ = N
  have hlen : (rangeD 0 ((p.length : Nat) : Int).toNat).length = p.length := by unfold rangeD; simp
  refine V_for (fun i e t => t = s ∧ i ≤ p.length ∧ e = [some (.tup [.tup (ln.map pr), pr c]), some (.lst false (p.map pr)), some (pr (dotR (ln.take i) (p.take i) c)), none]) _ 0 ⟨rfl, Nat.zero_le _, rfl⟩ ?_ ?_
  · rintro i x e t hx ⟨rfl, hi, rfl⟩
    obtain ⟨hj, rfl⟩ := range_get hx
    rw [Nat.zero_add] at hi ⊢
    have hip : i < p.length := by omega
    have hil : i < ln.length := by omega
    have zd := dot_zb (as := ln.take i) (bs := p.take i) (m := m) (n := n) (fun x hx => ha x (List.mem_of_mem_take hx)) (fun x hx => hb x (List.mem_of_mem_take hx)) (z := c) (i := 1) (hc.mono (by omega) (by omega))
    have li : (ln.take i).length = i := by rw [List.length_take]; omega
    have lpi : (p.take i).length = i := by rw [List.length_take]; omega
    rw [li] at zd
    have zm := Zk.mul (getD_zb (j := i) ha) (getD_zb (j := i) hb)
    have k1 := kt (1 + i) (by omega)
    have k2 := kt (1 + i + 1) (by omega)
    have ek : (m + n + 1) * (1 + i + 1) = (m + n + 1) * (1 + i) + (m + n + 1) := by rw [Nat.mul_add _ (1 + i) 1, Nat.mul_one]
    walk_at "mp mn"
    rw [Bdy_eq]
    simp only [Int.zero_add]
    walk_at "mp nx"
    rw [ix_tup (pr_get hil)]
    walk_at "mp mn"
    rw [ix_lst (pr_get hip)]
    walk_at "mp mn"
    refine V_rmul (k := k) hdv hq hmu (getD_zb (j := i) ha) (getD_zb (j := i) hb) (by omega) ?_
    walk_at "mp mn"
    refine V_radd (k := k) hdv hq had zd zm (by omega) ?_
    walk_at "mp nx"
    refine ⟨by omega, ?_⟩
    rw [take_snoc hil, take_snoc hip, dot_snoc _ _ _ _ _ (by rw [li, lpi])]
  · rintro e t ⟨rfl, _, rfl⟩
    rw [hlen, Nat.zero_add, ← hN]
    walk_at "mp nx"
    rw [show ln.take p.length = ln by rw [← hl]; exact List.take_length .., List.take_length]
    exact q
/-- a list of numbers, made the program's -/
theorem V_ases (has : Γ "_law_as" = some d__law_as) {f : D → M (Option D)} (hf : ∀ (u : Rat) (R : Option D → Strm → Prop), V (callF Γ (k + 1) "_law_as" [pr u]) s (fun d s' => R (some d) s') → V (f (pr u)) s R) {xs : List Rat} {R : List D → Strm → Prop} (hz : ∀ x ∈ xs, Sm x) (q : R (xs.map .rat) s) : V (lcD f (xs.map pr)) s R := by
  refine V_map (g := fun x => match x with | .tup [.int a, .int b] => .rat (Rat.divInt a b) | x => x) _ (fun x hx R hR => ?_) ?_
  · obtain ⟨u, hu, rfl⟩ := List.mem_map.mp hx
    refine hf u R (V_as has (hz u hu) ?_)
    have : R (some (.rat (Rat.divInt u.num u.den))) s := hR
    rwa [Rat.num_divInt_den] at this
  · rw [List.map_map]
    have e : xs.map ((fun x => match x with | .tup [.int a, .int b] => .rat (Rat.divInt a b) | x => x) ∘ pr) = xs.map D.rat := by
      refine List.map_congr_left fun r _ => ?_
      show D.rat (Rat.divInt r.num r.den) = _
      rw [Rat.num_divInt_den]
    rw [e]
    exact q
/-- and back -/
theorem V_pairs (hpa : Γ "_law_pair" = some r__law_pair) {f : D → M (Option D)} (hf : ∀ (u : Rat) (R : Option D → Strm → Prop), V (callF Γ (k + 1) "_law_pair" [.rat u]) s (fun d s' => R (some d) s') → V (f (.rat u)) s R) {xs : List Rat} {R : List D → Strm → Prop} (q : R (xs.map pr) s) : V (lcD f (xs.map .rat)) s R := by
  refine V_map (g := fun x => match x with | .rat q => pr q | x => x) _ (fun x hx R hR => ?_) ?_
  · obtain ⟨u, hu, rfl⟩ := List.mem_map.mp hx
    exact hf u R (V_rpair hpa hR)
  · rw [List.map_map]
    exact q
theorem V_form_as (has : Γ "_law_as" = some d__law_as) (h2 : Γ "_law_form_as" = some d__law_form_as) {ln : List Rat} {c : Rat} (hz : ∀ x ∈ ln, Sm x) (hc : Sm c) (hl : ln.length ≤ LIM) (q : Q (encFm ln c) s) : V (callF Γ (k + 2) "_law_form_as" [encFl ln c]) s Q := by
  refine V_call h2 rfl ?_
  simp only [d__law_form_as]
  rw [show encFl ln c = .tup [.tup (ln.map pr), pr c] from rfl]
  walk_at "mp mn"
  refine ⟨noOwns_prs' ln, ⟨by rw [List.length_map]; exact hl, noOwns_prs' ln⟩, ?_⟩
  refine V_ases (k := k) has (fun u R h => ?_) hz ?_
  · rw [Elm_eq]
    walk_at "mp mn"
    refine V_mono h fun a b h => ?_
    walk_at "mp mn"
    exact h
  walk_at "mp mn"
  refine V_as (k := k) has hc ?_
  walk_at "mp mn"
  exact q
end
end Mp

namespace Mp
open PySem (Str CmpOp)
/-! ### sheets of cues -/
section
variable {Γ : String → Option MDef} {k : Nat} {s : Strm} {Q : D → Strm → Prop}
/-! ### timings -/
end
end Mp

namespace Mp
open PySem (Str CmpOp)
/-! ### tables of bounds: the two ways of closing them -/
abbrev Tb := Nat → Nat → Option Rat
def minO : Option Rat → Option Rat → Option Rat
  | none, b => b
  | some a, none => some a
  | some a, some b => some (if a < b then a else b)
/-- a is at most b, where none is no bound -/
def leO (a b : Option Rat) : Prop := ∀ y, b = some y → ∃ x, a = some x ∧ x ≤ y
theorem leO.trans {a b c : Option Rat} (h : leO a b) (h' : leO b c) : leO a c := fun z hz => by
  obtain ⟨y, hy, l⟩ := h' z hz
  obtain ⟨x, hx, l'⟩ := h y hy
  exact ⟨x, hx, Rat.le_trans l' l⟩
theorem min_cases (a b : Option Rat) : minO a b = a ∨ minO a b = b := by
  cases a with
  | none => exact .inr rfl
  | some a =>
    cases b with
    | none => exact .inl rfl
    | some b =>
      show some (if a < b then a else b) = _ ∨ some (if a < b then a else b) = _
      split
      · exact .inl rfl
      · exact .inr rfl
/-! ### walks -/
/-! pigeons -/
/-! ### numbers over one denominator -/
def Lq (L B : Nat) (q : Rat) : Prop := ∃ m : Int, q * (L : Int) = m ∧ m.natAbs ≤ B
theorem Lq.mono {L B B' : Nat} {q : Rat} (h : Lq L B q) (c : B ≤ B') : Lq L B' q := let ⟨m, e, l⟩ := h; ⟨m, e, Nat.le_trans l c⟩
theorem Lq.zero {L B : Nat} : Lq L B 0 := ⟨0, by rw [Rat.zero_mul]; rfl, Nat.zero_le _⟩
theorem Lq.add {L B B' : Nat} {a b : Rat} (h : Lq L B a) (h' : Lq L B' b) : Lq L (B + B') (a + b) := by
  obtain ⟨m, e, l⟩ := h
  obtain ⟨m', e', l'⟩ := h'
  refine ⟨m + m', ?_, by omega⟩
  rw [Rat.add_mul, e, e', Rat.intCast_add]
theorem Lq.neg {L B : Nat} {a : Rat} (h : Lq L B a) : Lq L B (-a) := by
  obtain ⟨m, e, l⟩ := h
  exact ⟨-m, by rw [Rat.neg_mul, e, Rat.intCast_neg], by omega⟩
theorem Lq.sub {L B B' : Nat} {a b : Rat} (h : Lq L B a) (h' : Lq L B' b) : Lq L (B + B') (a - b) := by
  rw [Rat.sub_eq_add_neg]
  exact h.add h'.neg
theorem Lq.sm {L B : Nat} {q : Rat} (hL : 0 < L) (h : Lq L B q) (c : L < 2 ^ 4480) (c' : B < 2 ^ 4480) : Sm q := by
  obtain ⟨m, e, l⟩ := h
  have l0 : ((L : Int) : Rat) ≠ 0 := by
    intro z
    have : (L : Int) = 0 := by exact_mod_cast z
    omega
  have eq : q = Rat.divInt m (L : Int) := by
    rw [Rat.divInt_eq_div, ← e]
    grind
  rw [eq]
  exact (Zb.divInt (a := 4480) (b := 4480) (by omega) (by omega) (by rw [Int.natAbs_natCast]; omega)).sm (by decide) (by decide)
theorem Lq.min {L B : Nat} {a b : Option Rat} (h : ∀ x, a = some x → Lq L B x) (h' : ∀ x, b = some x → Lq L B x) : ∀ x, minO a b = some x → Lq L B x := by
  intro x e
  rcases min_cases a b with z | z <;> rw [z] at e
  · exact h x e
  · exact h' x e
/-! ### tables as data -/
section
variable {e : Option Rat → D} {n : Nat} {T : Tb} {i j : Nat} {o : Bool}
theorem noOwns_map {α : Type} {f : α → D} (h : ∀ x, (f x).noOwn = true) : ∀ xs : List α, D.noOwns (xs.map f) = true
  | [] => rfl
  | x :: xs => by
    show ((f x).noOwn && D.noOwns (xs.map f)) = true
    rw [h, noOwns_map h xs]
    rfl
theorem noShrs_map {α : Type} {f : α → D} (h : ∀ x, (f x).noShr = true) : ∀ xs : List α, D.noShrs (xs.map f) = true
  | [] => rfl
  | x :: xs => by
    show ((f x).noShr && D.noShrs (xs.map f)) = true
    rw [h, noShrs_map h xs]
    rfl
theorem strips_map {α : Type} {f g : α → D} (h : ∀ x, (f x).strip = g x) : ∀ xs : List α, D.strips (xs.map f) = xs.map g
  | [] => rfl
  | x :: xs => by
    show (f x).strip :: D.strips (xs.map f) = _
    rw [h, strips_map h xs]
    rfl
end
section
variable {Γ : String → Option MDef} {k : Nat} {s : Strm} {Q : D → Strm → Prop}
/-- all entries over one denominator -/
def TB (n L B t : Nat) (U : Tb) : Prop := ∀ a b x, a < n → b < n → U a b = some x → Lq L (B * 2 ^ t) x
theorem TB.mono {n L B t t' : Nat} {U : Tb} (h : TB n L B t U) (c : t ≤ t') : TB n L B t' U := fun a b x ha hb e => (h a b x ha hb e).mono (Nat.mul_le_mul_left _ (Nat.pow_le_pow_right (by decide) c))
end
end Mp

namespace Mp
open PySem (Str CmpOp)
/-! ### eliminations -/
def ent (r : List Rat) (c : Nat) : Rat := r.getD c 0
def les (one : List Rat) (c : Nat) (r : List Rat) : List Rat := if ent r c = 0 then r else List.zipWith (fun a b => a - ent r c * b) r one
def piv (rows : List (List Rat)) (c : Nat) : List Nat := (List.range rows.length).filter fun k => decide (ent (rows.getD k []) c ≠ 0)
def oneR (r : List Rat) (c : Nat) : List Rat := r.map fun x => x / ent r c
structure St3 where
  left : List (List Rat)
  done : List (List Rat)
  leads : List Nat
def stepE (s : St3) (c : Nat) : St3 := match piv s.left c with
  | [] => s
  | k :: _ => ⟨(s.left.eraseIdx k).map (les (oneR (s.left.getD k []) c) c), s.done.map (les (oneR (s.left.getD k []) c) c) ++ [oneR (s.left.getD k []) c], s.leads ++ [c]⟩
def redE (rows : List (List Rat)) (w : Nat) : St3 := (List.range w).foldl stepE ⟨rows, [], []⟩
theorem redE_succ (rows : List (List Rat)) (w : Nat) : redE rows (w + 1) = stepE (redE rows w) w := by
  unfold redE
  rw [List.range_succ, List.foldl_append]
  rfl
theorem piv_mem {rows : List (List Rat)} {c k : Nat} {r : List Nat} (h : piv rows c = k :: r) : k < rows.length ∧ ent (rows.getD k []) c ≠ 0 := by
  have m : k ∈ piv rows c := by rw [h]; exact List.mem_cons_self
  unfold piv at m
  obtain ⟨m1, m2⟩ := List.mem_filter.mp m
  exact ⟨List.mem_range.mp m1, of_decide_eq_true m2⟩
/-! sizes -/
theorem Lq.parts {L B : Nat} {q : Rat} (hL : 0 < L) (h : Lq L B q) : q.num.natAbs ≤ B ∧ q.den ≤ L := by
  obtain ⟨m, e, l⟩ := h
  have l0 : ((L : Int) : Rat) ≠ 0 := by
    intro z
    have : (L : Int) = 0 := by exact_mod_cast z
    omega
  have eq : q = Rat.divInt m (L : Int) := by
    rw [Rat.divInt_eq_div, ← e]
    grind
  have dL : (L : Int) ≠ 0 := by omega
  refine ⟨Nat.le_trans ?_ l, ?_⟩
  · rw [eq, Rat.num_divInt]
    have e : ((L : Int).sign * m).natAbs = m.natAbs := by rw [Int.sign_eq_one_of_pos (by omega)]; omega
    rw [← e]
    exact Int.natAbs_ediv_le_natAbs _ _
  · rw [eq, Rat.den_divInt, if_neg dL]
    exact Nat.le_trans (Nat.div_le_self _ _) (by rw [Int.natAbs_natCast]; exact Nat.le_refl _)
/-- the numbers of a row, over one denominator -/
def RB (b : Nat) (r : List Rat) : Prop := ∃ L : Nat, 0 < L ∧ L ≤ 2 ^ b ∧ ∀ x ∈ r, Lq L (2 ^ b) x
theorem RB.mono {b b' : Nat} {r : List Rat} (h : RB b r) (c : b ≤ b') : RB b' r := by
  obtain ⟨L, l0, l1, h⟩ := h
  have := Nat.pow_le_pow_right (show 0 < 2 by decide) c
  exact ⟨L, l0, Nat.le_trans l1 this, fun x hx => (h x hx).mono this⟩
theorem RB.zb {b : Nat} {r : List Rat} (h : RB b r) : ∀ x ∈ r, Zb (b + 1) (b + 1) x := by
  obtain ⟨L, l0, l1, h⟩ := h
  intro x hx
  obtain ⟨h1, h2⟩ := (h x hx).parts l0
  exact ⟨Nat.lt_of_le_of_lt h1 (Nat.pow_lt_pow_right (by decide) (Nat.lt_succ_self b)), Nat.le_trans h2 (Nat.le_trans l1 (Nat.pow_le_pow_right (by decide) (Nat.le_succ b)))⟩
theorem ent_mem {r : List Rat} {c : Nat} (h : c < r.length) : ent r c ∈ r := by
  unfold ent
  rw [List.getD_eq_getElem?_getD, List.getElem?_eq_getElem h]
  exact List.getElem_mem h
theorem RB.one {b c : Nat} {r : List Rat} (h : RB b r) (hc : c < r.length) (hp : ent r c ≠ 0) : RB b (oneR r c) := by
  obtain ⟨L, l0, l1, h⟩ := h
  obtain ⟨p, ep, lp⟩ := h _ (ent_mem hc)
  have hL : ((L : Int) : Rat) ≠ 0 := by
    intro z
    have : (L : Int) = 0 := by exact_mod_cast z
    omega
  have p0 : p ≠ 0 := by
    intro z
    subst z
    have : ent r c * ((L : Int) : Rat) = 0 := ep
    rcases Rat.mul_eq_zero.mp this with z | z
    · exact hp z
    · exact hL z
  refine ⟨p.natAbs, by omega, lp, fun y hy => ?_⟩
  obtain ⟨x, hx, rfl⟩ := List.mem_map.mp hy
  obtain ⟨m, em, lm⟩ := h x hx
  have hpr : (p : Rat) ≠ 0 := by exact_mod_cast p0
  have key : x / ent r c * (p : Rat) = (m : Rat) := by
    rw [← ep, ← em]
    grind
  by_cases s : 0 ≤ p
  · refine ⟨m, ?_, lm⟩
    rw [show ((p.natAbs : Nat) : Int) = p by omega]
    exact key
  · refine ⟨-m, ?_, by omega⟩
    rw [show ((p.natAbs : Nat) : Int) = -p by omega, Rat.intCast_neg, Rat.intCast_neg, ← key]
    grind
theorem RB.les {b c : Nat} {r one : List Rat} (h : RB b r) (ho : RB b one) (hc : c < r.length) : RB (2 * b + 1) (les one c r) := by
  unfold Mp.les
  split
  · exact h.mono (by omega)
  · obtain ⟨L, l0, l1, h⟩ := h
    obtain ⟨K, k0, k1, ho⟩ := ho
    obtain ⟨f, ef, lf⟩ := h _ (ent_mem hc)
    have e2 : (2 : Nat) ^ (2 * b + 1) = 2 ^ b * 2 ^ b * 2 := by rw [Nat.pow_succ, Nat.two_mul, Nat.pow_add]
    refine ⟨L * K, Nat.mul_pos l0 k0, ?_, fun y hy => ?_⟩
    · rw [e2]
      have := Nat.mul_le_mul l1 k1
      omega
    · rw [← List.map_uncurry_zip_eq_zipWith] at hy
      obtain ⟨⟨a, o⟩, hp, rfl⟩ := List.mem_map.mp hy
      obtain ⟨m, em, lm⟩ := h a (List.of_mem_zip hp).1
      obtain ⟨n, en, ln⟩ := ho o (List.of_mem_zip hp).2
      refine ⟨m * (K : Int) - f * n, ?_, ?_⟩
      · show (a - ent r c * o) * (((L * K : Nat) : Int) : Rat) = _
        rw [Int.natCast_mul, Rat.intCast_mul, Rat.intCast_sub, Rat.intCast_mul, Rat.intCast_mul, ← em, ← en, ← ef]
        grind
      · have h1 : (m * (K : Int)).natAbs ≤ 2 ^ b * 2 ^ b := by
          rw [Int.natAbs_mul]
          exact Nat.mul_le_mul lm (by rw [Int.natAbs_natCast]; exact k1)
        have h2 : (f * n).natAbs ≤ 2 ^ b * 2 ^ b := by
          rw [Int.natAbs_mul]
          exact Nat.mul_le_mul lf ln
        rw [e2]
        omega
theorem les_len {one r : List Rat} {c : Nat} (h : one.length = r.length) : (les one c r).length = r.length := by
  unfold les
  split
  · rfl
  · rw [List.length_zipWith]
    omega
/-- all rows of a walk -/
structure StOk (w b : Nat) (s : St3) : Prop where
  left : ∀ r ∈ s.left, r.length = w ∧ RB b r
  done : ∀ r ∈ s.done, r.length = w ∧ RB b r
theorem StOk.mono {w b b' : Nat} {s : St3} (h : StOk w b s) (c : b ≤ b') : StOk w b' s := ⟨fun r hr => ⟨(h.left r hr).1, (h.left r hr).2.mono c⟩, fun r hr => ⟨(h.done r hr).1, (h.done r hr).2.mono c⟩⟩
theorem getD_mem {α : Type} {xs : List α} {k : Nat} {d : α} (h : k < xs.length) : xs.getD k d ∈ xs := by
  rw [List.getD_eq_getElem?_getD, List.getElem?_eq_getElem h]
  exact List.getElem_mem h
theorem StOk.step {w b c : Nat} {s : St3} (h : StOk w b s) (hc : c < w) : StOk w (2 * b + 1) (stepE s c) := by
  unfold stepE
  cases hp : piv s.left c with
  | nil => exact h.mono (by omega)
  | cons k r =>
    obtain ⟨k1, k2⟩ := piv_mem hp
    obtain ⟨g1, g2⟩ := h.left _ (getD_mem (d := []) k1)
    have o1 : (oneR (s.left.getD k []) c).length = w := by unfold oneR; rw [List.length_map, g1]
    have o2 := g2.one (by omega) k2
    have le : ∀ r, r.length = w ∧ RB b r → (les (oneR (s.left.getD k []) c) c r).length = w ∧ RB (2 * b + 1) (les (oneR (s.left.getD k []) c) c r) := fun r hr => ⟨by rw [les_len (by omega), hr.1], hr.2.les o2 (by omega)⟩
    refine ⟨fun r hr => ?_, fun r hr => ?_⟩
    · obtain ⟨r', hr', rfl⟩ := List.mem_map.mp hr
      exact le r' (h.left r' (List.mem_of_mem_eraseIdx hr'))
    · rcases List.mem_append.mp hr with hr | hr
      · obtain ⟨r', hr', rfl⟩ := List.mem_map.mp hr
        exact le r' (h.done r' hr')
      · rw [List.mem_singleton.mp hr]
        exact ⟨o1, o2.mono (by omega)⟩
/-- the bound behind so many columns -/
def bnd (b : Nat) : Nat → Nat
  | 0 => b
  | c + 1 => 2 * bnd b c + 1
theorem bnd_mono {b c d : Nat} (h : c ≤ d) : bnd b c ≤ bnd b d := by
  induction d with
  | zero => rw [Nat.le_zero.mp h]; exact Nat.le_refl _
  | succ d ih =>
    rcases Nat.lt_or_eq_of_le h with h | h
    · have := ih (by omega)
      show _ ≤ 2 * bnd b d + 1
      omega
    · rw [h]; exact Nat.le_refl _
/-! lengths alone -/
theorem red_len {rows : List (List Rat)} {w : Nat} (h : ∀ r ∈ rows, r.length = w) : ∀ c, (∀ r ∈ (redE rows c).left, r.length = w) ∧ ∀ r ∈ (redE rows c).done, r.length = w
  | 0 => ⟨h, fun r hr => absurd hr List.not_mem_nil⟩
  | c + 1 => by
    obtain ⟨h1, h2⟩ := red_len h c
    rw [redE_succ]
    unfold stepE
    cases hp : piv (redE rows c).left c with
    | nil => exact ⟨h1, h2⟩
    | cons k r =>
      obtain ⟨k1, _⟩ := piv_mem hp
      have g1 := h1 _ (getD_mem (d := []) k1)
      have o1 : (oneR ((redE rows c).left.getD k []) c).length = w := by unfold oneR; rw [List.length_map, g1]
      refine ⟨fun r hr => ?_, fun r hr => ?_⟩
      · obtain ⟨r', hr', rfl⟩ := List.mem_map.mp hr
        have := h1 r' (List.mem_of_mem_eraseIdx hr')
        rw [les_len (by omega), this]
      · rcases List.mem_append.mp hr with hr | hr
        · obtain ⟨r', hr', rfl⟩ := List.mem_map.mp hr
          have := h2 r' hr'
          rw [les_len (by omega), this]
        · rw [List.mem_singleton.mp hr]
          exact o1
/-- a bound for all rows ahead of each step -/
def Sized (rows : List (List Rat)) (w m : Nat) : Prop := ∀ c, c < w → piv (redE rows c).left c ≠ [] → StOk w m (redE rows c)
/-! one denominator for all rows: it takes a factor at each step that has a pivot -/
structure StC (w b : Nat) (s : St3) : Prop where
  len : (∀ r ∈ s.left, r.length = w) ∧ ∀ r ∈ s.done, r.length = w
  num : ∃ L : Nat, 0 < L ∧ L ≤ 2 ^ b ∧ (∀ r ∈ s.left, ∀ x ∈ r, Lq L (2 ^ b) x) ∧ ∀ r ∈ s.done, ∀ x ∈ r, Lq L (2 ^ b) x
theorem StC.ok {w b : Nat} {s : St3} (h : StC w b s) : StOk w b s := by
  obtain ⟨L, l0, l1, h1, h2⟩ := h.num
  exact ⟨fun r hr => ⟨h.len.1 r hr, L, l0, l1, h1 r hr⟩, fun r hr => ⟨h.len.2 r hr, L, l0, l1, h2 r hr⟩⟩
theorem StC.step {rows : List (List Rat)} {w b c : Nat} (hw : ∀ r ∈ rows, r.length = w) (h : StC w b (redE rows c)) (hc : c < w) (hp : piv (redE rows c).left c ≠ []) : StC w (2 * b + 1) (redE rows (c + 1)) := by
  refine ⟨red_len hw (c + 1), ?_⟩
  rw [redE_succ]
  unfold stepE
  generalize redE rows c = s at h hp ⊢
  cases hk : piv s.left c with
  | nil => exact absurd hk hp
  | cons k ks =>
    obtain ⟨k1, k2⟩ := piv_mem hk
    obtain ⟨⟨hl1, hl2⟩, L, l0, l1, h1, h2⟩ := h
    have g1 := hl1 _ (getD_mem (d := []) k1)
    have g2 := h1 _ (getD_mem (d := []) k1)
    obtain ⟨row, hrow⟩ : ∃ row, s.left.getD k [] = row := ⟨_, rfl⟩
    rw [hrow] at k2 g1 g2
    obtain ⟨p, ep, lp⟩ := g2 _ (ent_mem (show c < row.length by omega))
    have hL : ((L : Int) : Rat) ≠ 0 := by
      intro z
      have : (L : Int) = 0 := by exact_mod_cast z
      omega
    have p0 : p ≠ 0 := by
      intro z
      subst z
      have : ent row c * ((L : Int) : Rat) = 0 := ep
      rcases Rat.mul_eq_zero.mp this with z | z
      · exact k2 z
      · exact hL z
    have hpr : (p : Rat) ≠ 0 := by exact_mod_cast p0
    have e2 : (2 : Nat) ^ (2 * b + 1) = 2 ^ b * 2 ^ b * 2 := by rw [Nat.pow_succ, Nat.two_mul, Nat.pow_add]
    have sgn : ((p.natAbs : Nat) : Int) = p.sign * p := by rw [Int.mul_comm, Int.mul_sign_self]
    have castL : (((L * p.natAbs : Nat) : Int) : Rat) = (L : Int) * ((p.sign : Rat) * (p : Rat)) := by
      rw [Int.natCast_mul, sgn, Rat.intCast_mul, Rat.intCast_mul]
    have s1 : p.sign.natAbs ≤ 1 := by rw [Int.natAbs_sign]; split <;> omega
    have sm : ∀ z : Int, (p.sign * z).natAbs ≤ z.natAbs := fun z => by
      rw [Int.natAbs_mul]
      exact Nat.le_trans (Nat.mul_le_mul_right _ s1) (by omega)
    have hone : ∀ y ∈ oneR row c, ∃ m : Int, y * (p : Rat) = m ∧ m.natAbs ≤ 2 ^ b := fun y hy => by
      obtain ⟨x, hx, rfl⟩ := List.mem_map.mp hy
      obtain ⟨m, em, lm⟩ := g2 x hx
      refine ⟨m, ?_, lm⟩
      rw [← ep, ← em]
      grind
    have base : ∀ x, Lq L (2 ^ b) x → Lq (L * p.natAbs) (2 ^ (2 * b + 1)) x := fun x hx => by
      obtain ⟨m, em, lm⟩ := hx
      refine ⟨p.sign * (m * p), ?_, ?_⟩
      · rw [castL, Rat.intCast_mul, Rat.intCast_mul, ← em]
        grind
      · refine Nat.le_trans (sm _) ?_
        rw [Int.natAbs_mul, e2]
        have := Nat.mul_le_mul lm lp
        omega
    have hles : ∀ r, (∀ x ∈ r, Lq L (2 ^ b) x) → c < r.length → ∀ x ∈ les (oneR row c) c r, Lq (L * p.natAbs) (2 ^ (2 * b + 1)) x := fun r hr hcl x hx => by
      unfold les at hx
      split at hx
      · exact base x (hr x hx)
      · rw [← List.map_uncurry_zip_eq_zipWith] at hx
        obtain ⟨⟨a, o⟩, hpz, rfl⟩ := List.mem_map.mp hx
        obtain ⟨m, em, lm⟩ := hr a (List.of_mem_zip hpz).1
        obtain ⟨n, en, ln⟩ := hone o (List.of_mem_zip hpz).2
        obtain ⟨f, ef, lf⟩ := hr _ (ent_mem hcl)
        refine ⟨p.sign * (m * p - f * n), ?_, ?_⟩
        · show (a - ent r c * o) * (((L * p.natAbs : Nat) : Int) : Rat) = _
          rw [castL, Rat.intCast_mul, Rat.intCast_sub, Rat.intCast_mul, Rat.intCast_mul, ← em, ← en, ← ef]
          grind
        · refine Nat.le_trans (sm _) ?_
          have z1 := Nat.mul_le_mul lm lp
          have z2 := Nat.mul_le_mul lf ln
          rw [← Int.natAbs_mul] at z1 z2
          rw [e2]
          omega
    refine ⟨L * p.natAbs, Nat.mul_pos l0 (by omega), ?_, fun r hr => ?_, fun r hr => ?_⟩
    · rw [e2]
      have := Nat.mul_le_mul l1 lp
      omega
    · obtain ⟨r', hr', rfl⟩ := List.mem_map.mp hr
      have hm := List.mem_of_mem_eraseIdx hr'
      rw [hrow]
      exact hles r' (h1 r' hm) (by rw [hl1 r' hm]; exact hc)
    · rcases List.mem_append.mp hr with hr | hr
      · obtain ⟨r', hr', rfl⟩ := List.mem_map.mp hr
        rw [hrow]
        exact hles r' (h2 r' hr') (by rw [hl2 r' hr']; exact hc)
      · rw [List.mem_singleton.mp hr, hrow]
        intro y hy
        obtain ⟨m, em, lm⟩ := hone y hy
        refine ⟨(L : Int) * (p.sign * m), ?_, ?_⟩
        · rw [castL, Rat.intCast_mul, Rat.intCast_mul, ← em]
          grind
        · rw [Int.natAbs_mul, Int.natAbs_natCast, e2]
          have := Nat.mul_le_mul l1 (Nat.le_trans (sm m) lm)
          omega
theorem StC.mono {w b b' : Nat} {s : St3} (h : StC w b s) (c : b ≤ b') : StC w b' s := by
  obtain ⟨L, l0, l1, h1, h2⟩ := h.num
  have := Nat.pow_le_pow_right (show 0 < 2 by decide) c
  exact ⟨h.len, L, l0, Nat.le_trans l1 this, fun r hr x hx => (h1 r hr x hx).mono this, fun r hr x hx => (h2 r hr x hx).mono this⟩
theorem redE_sum (rs : List (List Rat)) : ∀ w, (redE rs w).left.length + (redE rs w).leads.length = rs.length
  | 0 => rfl
  | w + 1 => by
    have h := redE_sum rs w
    rw [redE_succ]
    unfold stepE
    cases hp : piv (redE rs w).left w with
    | nil => exact h
    | cons k r =>
      obtain ⟨k1, _⟩ := piv_mem hp
      show (((redE rs w).left.eraseIdx k).map _).length + ((redE rs w).leads ++ [_]).length = _
      rw [List.length_map, List.length_append, List.length_eraseIdx, if_pos k1, List.length_singleton]
      omega
/-- rows over one denominator -/
def RC (b : Nat) (rows : List (List Rat)) : Prop := ∃ L : Nat, 0 < L ∧ L ≤ 2 ^ b ∧ ∀ r ∈ rows, ∀ x ∈ r, Lq L (2 ^ b) x
theorem red_okC {rows : List (List Rat)} {w b : Nat} (hw : ∀ r ∈ rows, r.length = w) (h : RC b rows) : ∀ c, c ≤ w → StC w (bnd b (redE rows c).leads.length) (redE rows c)
  | 0, _ => by
    obtain ⟨L, l0, l1, h⟩ := h
    exact ⟨⟨hw, fun r hr => absurd hr List.not_mem_nil⟩, L, l0, l1, h, fun r hr => absurd hr List.not_mem_nil⟩
  | c + 1, hc => by
    have ih := red_okC hw h c (by omega)
    by_cases hp : piv (redE rows c).left c = []
    · have e : redE rows (c + 1) = redE rows c := by rw [redE_succ]; unfold stepE; rw [hp]
      rw [e]
      exact ih
    · have st := StC.step hw ih (by omega) hp
      have e : (redE rows (c + 1)).leads.length = (redE rows c).leads.length + 1 := by
        rw [redE_succ]
        unfold stepE
        cases hk : piv (redE rows c).left c with
        | nil => exact absurd hk hp
        | cons k ks =>
          show ((redE rows c).leads ++ [c]).length = _
          rw [List.length_append]
          rfl
      rw [e]
      exact st
theorem sized_C {rows : List (List Rat)} {w b m : Nat} (hw : ∀ r ∈ rows, r.length = w) (h : RC b rows) (hm : bnd b (rows.length - 1) ≤ m) : Sized rows w m := fun c hc hp => by
  have s := redE_sum rows c
  have : 0 < (redE rows c).left.length := by
    cases hk : piv (redE rows c).left c with
    | nil => exact absurd hk hp
    | cons k ks => have := (piv_mem hk).1; omega
  exact (red_okC hw h c (by omega)).ok.mono (Nat.le_trans (bnd_mono (by omega)) hm)
end Mp

namespace Mp
open PySem (Str CmpOp)
/-! ### the program's elimination -/
def r_quotient : MDef := ⟨2, 2, (.cons (.ret (.mk (.cons (.bin .mul (.top (.var 0)) (.bot (.var 1))) (.cons (.bin .mul (.bot (.var 0)) (.top (.var 1))) .nil)))) .nil)⟩
def r_is_zero : MDef := ⟨1, 1, (.cons (.ret (.cmp .Eq (.top (.var 0)) (.int 0))) .nil)⟩
def d_lessened : MDef := ⟨3, 6, (.cons (.asg (.nm 3) (.ix (.var 0) (.var 2))) (.cons (.ite (.call "is_zero" (.cons (.var 3) .nil)) (.cons (.ret (.var 0)) .nil) .nil) (.cons (.ret (.lc (.tup [4, 5]) (.zip (.var 0) (.var 1)) .nop (.bin .sub (.var 4) (.bin .mul (.var 3) (.var 5))))) .nil)))⟩
def d_reduced : MDef := ⟨1, 11, (.cons (.asg (.nm 1) (.lc (.nm 2) (.seq (.var 0)) .nop (.bi .list (.cons (.var 2) .nil)))) (.cons (.asg (.nm 3) (.lst .nil)) (.cons (.asg (.nm 4) (.lst .nil)) (.cons (.asg (.nm 5) (.ifx (.var 0) (.bi .len (.cons (.ix (.var 0) (.int 0)) .nil)) (.int 0))) (.cons (.loop (.nm 6) (.rng (.var 5)) (.cons (.asg (.nm 7) (.lc (.nm 8) (.rng (.ln (.var 1))) (.not (.call "is_zero" (.cons (.ix (.ix (.var 1) (.var 8)) (.var 6)) .nil))) (.var 8))) (.cons (.ite (.var 7) (.cons (.pop 9 1 (.ix (.var 7) (.int 0))) (.cons (.frz 9) (.cons (.asg (.nm 9) (.lc (.nm 10) (.seq (.var 9)) .nop (.call "quotient" (.cons (.var 10) (.cons (.ix (.var 9) (.var 6)) .nil))))) (.cons (.frz 1) (.cons (.frz 9) (.cons (.asg (.nm 1) (.lc (.nm 2) (.seq (.var 1)) .nop (.call "lessened" (.cons (.var 2) (.cons (.var 9) (.cons (.var 6) .nil)))))) (.cons (.frz 3) (.cons (.frz 9) (.cons (.asg (.nm 3) (.bin .add (.lc (.nm 2) (.seq (.var 3)) .nop (.call "lessened" (.cons (.var 2) (.cons (.var 9) (.cons (.var 6) .nil))))) (.lst (.cons (.var 9) .nil)))) (.cons (.app 4 (.var 6)) .nil)))))))))) .nil) .nil)) [6, 7, 9]) (.cons (.frz 3) (.cons (.frz 4) (.cons (.ret (.tup (.cons (.var 3) (.cons (.var 4) .nil)))) .nil))))))))⟩
def d_solve : MDef := ⟨2, 7, (.cons (.asg (.nm 2) (.bi .len (.cons (.ix (.var 0) (.int 0)) .nil))) (.cons (.asg (.tup [3, 4]) (.call "reduced" (.cons (.fz (.lc (.tup [5, 6]) (.zip (.var 0) (.var 1)) .nop (.bin .add (.bi .list (.cons (.var 5) .nil)) (.lst (.cons (.var 6) .nil))))) .nil))) (.cons (.ite (.cmp .NotEq (.var 4) (.lrg (.var 2))) (.cons (.ret .non) .nil) .nil) (.cons (.ret (.lc (.nm 5) (.seq (.var 3)) .nop (.ix (.var 5) (.var 2)))) .nil))))⟩
theorem V_mapE {α : Type} {f : D → M (Option D)} {s : Strm} {e h : α → D} {Q : List D → Strm → Prop} : ∀ (xs : List α), (∀ x ∈ xs, ∀ R : Option D → Strm → Prop, R (some (h x)) s → V (f (e x)) s R) → Q (xs.map h) s → V (lcD f (xs.map e)) s Q
  | [], _, q => by rw [List.map_nil, lcD]; exact V_pure.mpr q
  | x :: xs, hf, q => by
    rw [List.map_cons, lcD]
    exact V_bind.mpr (hf x List.mem_cons_self _ (V_bind.mpr (V_mapE xs (fun y hy => hf y (List.mem_cons_of_mem _ hy)) (V_pure.mpr q))))
/-- a row, with its flag -/
def mixF (e : Rat → D) (p : Bool × List Rat) : D := .lst p.1 (p.2.map e)
structure EncR (e : Rat → D) : Prop where
  strip : ∀ x, (e x).strip = e x
  noOwn : ∀ x, (e x).noOwn = true
  noShr : ∀ x, (e x).noShr = true
theorem encR_rat : EncR .rat := ⟨fun _ => rfl, fun _ => rfl, fun _ => rfl⟩
theorem encR_pr : EncR pr := ⟨fun _ => rfl, fun _ => rfl, fun _ => rfl⟩
section
variable {e : Rat → D}
theorem EncR.noOwns (k : EncR e) (xs : List Rat) : D.noOwns (xs.map e) = true := noOwns_map k.noOwn xs
theorem EncR.noShrs (k : EncR e) (xs : List Rat) : D.noShrs (xs.map e) = true := noShrs_map k.noShr xs
theorem EncR.strips (k : EncR e) (xs : List Rat) : D.strips (xs.map e) = xs.map e := strips_map k.strip xs
theorem EncR.strips_mix (k : EncR e) (fl : List (Bool × List Rat)) : D.strips (fl.map (mixF e)) = (fl.map (·.2)).map fun r => D.lst false (r.map e) := by
  rw [strips_map (g := fun p : Bool × List Rat => D.lst false (p.2.map e)) (fun p => by show D.lst false (D.strips (p.2.map e)) = _; rw [k.strips]) fl, List.map_map]
  rfl
theorem EncR.rows_no (k : EncR e) (rs : List (List Rat)) : D.noOwns (rs.map fun r => D.lst false (r.map e)) = true := noOwns_map (fun r => by show (!false && D.noOwns (r.map e)) = true; rw [k.noOwns]; rfl) rs
theorem EncR.rows_strips (k : EncR e) (rs : List (List Rat)) : D.strips (rs.map fun r => D.lst false (r.map e)) = rs.map fun r => D.lst false (r.map e) := strips_map (fun r => by show D.lst false (D.strips (r.map e)) = _; rw [k.strips]) rs
theorem row_at (r : List Rat) {c : Nat} (h : c < r.length) : (r.map e)[c]? = some (e (ent r c)) := by
  rw [List.getElem?_map, List.getElem?_eq_getElem h]
  unfold ent
  rw [List.getD_eq_getElem?_getD, List.getElem?_eq_getElem h]
  rfl
end
section
variable {Γ : String → Option MDef} {k : Nat} {s : Strm} {Q : D → Strm → Prop} {a b : Rat}
theorem V_rquot (h2 : Γ "quotient" = some r_quotient) (h0 : b ≠ 0) (ha : Sm a) (hb : Sm b) (q : Q (.rat (a / b)) s) : V (callF Γ (k + 1) "quotient" [.rat a, .rat b]) s Q := by
  refine V_call h2 rfl ?_
  simp only [r_quotient]
  walk_at "mp ms"
  have h1 : (a.den : Int) ≠ 0 := by have := a.den_nz; omega
  have h3 : b.num ≠ 0 := fun z => h0 (Rat.num_eq_zero.mp z)
  refine ⟨sm_mul ha.num (by simpa using hb.den), sm_mul (by simpa using ha.den) hb.num, ?_⟩
  rw [if_neg (Int.mul_ne_zero h1 h3), rat_divE h0]
  walk_at "mp ms"
  refine ⟨?_, q⟩
  rw [Int.natAbs_mul, Int.natAbs_natCast]
  refine (Nat.log2_lt (Nat.mul_ne_zero a.den_nz (by omega))).mpr ?_
  have : a.den * b.num.natAbs < 2 ^ BIT * 2 ^ BIT := Nat.mul_lt_mul'' ha.den hb.num
  rw [← Nat.pow_add] at this
  exact Nat.lt_of_lt_of_le this (Nat.pow_le_pow_right (by decide) (by decide))
theorem num_eq0 {q : Rat} : (q.num == 0) = (q == 0) := by
  by_cases h : q = 0
  · rw [h]; rfl
  · have : q.num ≠ 0 := fun z => h (Rat.num_eq_zero.mp z)
    rw [beq_eq_false_iff_ne.mpr h, beq_eq_false_iff_ne.mpr this]
theorem V_iszero (h2 : Γ "is_zero" = some r_is_zero) (q : Q (.bl (a == 0)) s) : V (callF Γ (k + 1) "is_zero" [.rat a]) s Q := by
  refine V_call h2 rfl ?_
  simp only [r_is_zero]
  walk_at "mp nx"
  rw [num_eq0]
  exact q
theorem V_lessened (hz : Γ "is_zero" = some r_is_zero) (h2 : Γ "lessened" = some d_lessened) {r one : List Rat} {c m : Nat} (hc : c < r.length) (hl : one.length = r.length) (hl2 : r.length ≤ 1000) (hr : ∀ x ∈ r, Zb m m x) (ho : ∀ x ∈ one, Zb m m x) (hm : 2 * m < 4490) (q : Q (.lst (!decide (ent r c = 0)) ((les one c r).map .rat)) s) :
    V (callF Γ (k + 2) "lessened" [.lst false (r.map .rat), .lst false (one.map .rat), .int (c : Nat)]) s Q := by
  refine V_call h2 rfl ?_
  simp only [d_lessened]
  have hlim2 : LIM = 1000000 := rfl
  walk_at "mp nx"
  rw [ix_lst (row_at r hc)]
  walk_at "mp nx"
  refine V_iszero hz ?_
  walk_at "mp mn"
  by_cases h0 : ent r c = 0
  · rw [if_pos (by simpa using h0)]
    rw [decide_eq_true h0, show les one c r = r from if_pos h0] at q
    walk_at "mp nx"
    exact ⟨noOwns_rats' r, q⟩
  · rw [if_neg (by simpa using h0)]
    rw [decide_eq_false h0, show les one c r = List.zipWith (fun a b => a - ent r c * b) r one from if_neg h0] at q
    walk_at "mp nx"
    have no : D.noOwns ((List.zip r one).map fun p => D.tup [.rat p.1, .rat p.2]) = true := noOwns_map (fun _ => rfl) _
    have lz : (List.zip r one).length ≤ 1000 := by rw [List.length_zip]; omega
    rw [zipD_rats]
    refine ⟨noOwns_rats' r, noOwns_rats' one, ⟨noOwns_rats' r, noOwns_rats' one⟩, ⟨by rw [List.length_map]; omega, no⟩, ?_⟩
    refine V_mapE (h := fun p : Rat × Rat => .rat (p.1 - ent r c * p.2)) _ (fun p hp R hR => ?_) ?_
    · have z1 := hr _ (List.of_mem_zip hp).1
      have z2 := ho _ (List.of_mem_zip hp).2
      have z3 := hr _ (ent_mem hc)
      rw [Elm_eq]
      walk_at "mp mn"
      exact ⟨⟨Zk.sm z3 (by omega), Zk.sm z2 (by omega)⟩, ⟨Zk.sm z1 (by omega), Zk.sm (Zk.mul z3 z2) (by omega)⟩, hR⟩
    · have e : (List.zip r one).map (fun p : Rat × Rat => D.rat (p.1 - ent r c * p.2)) = (List.zipWith (fun a b => a - ent r c * b) r one).map D.rat := by
        rw [← List.map_uncurry_zip_eq_zipWith, List.map_map]
        rfl
      rw [e]
      exact q
theorem range_piv (n : Nat) (f : Nat → Bool) : (rangeD 0 n).filter (fun d => match d with | .int i => f i.toNat | _ => false) = ((List.range n).filter f).map fun (i : Nat) => D.int i := by
  unfold rangeD
  rw [List.filter_map]
  have e : ((fun d => match d with | .int i => f i.toNat | _ => false) ∘ fun (i : Nat) => D.int (0 + (i : Int))) = f := by
    funext i
    show f (0 + (i : Int)).toNat = f i
    rw [Int.zero_add, Int.toNat_natCast]
  rw [e]
  refine List.map_congr_left fun i _ => ?_
  rw [Int.zero_add]
theorem mix_at {e : Rat → D} {fl : List (Bool × List Rat)} {k : Nat} (h : k < fl.length) : ∃ o, (fl.map (mixF e))[k]? = some (.lst o (((fl.map (·.2)).getD k []).map e)) := by
  refine ⟨fl[k].1, ?_⟩
  rw [List.getElem?_map, List.getElem?_eq_getElem h, List.getD_eq_getElem?_getD, List.getElem?_map, List.getElem?_eq_getElem h]
  rfl
theorem stepE_left (s : St3) (c : Nat) : (stepE s c).left.length ≤ s.left.length := by
  unfold stepE
  cases piv s.left c with
  | nil => exact Nat.le_refl _
  | cons k r =>
    show ((s.left.eraseIdx k).map _).length ≤ _
    rw [List.length_map, List.length_eraseIdx]
    split <;> omega
theorem redE_left (rs : List (List Rat)) : ∀ w, (redE rs w).left.length ≤ rs.length
  | 0 => Nat.le_refl _
  | w + 1 => by rw [redE_succ]; exact Nat.le_trans (stepE_left _ _) (redE_left rs w)
theorem V_filt {f : D → M (Option D)} {p : D → Bool} {s : Strm} {R : List D → Strm → Prop} : ∀ (xs : List D), (∀ x ∈ xs, ∀ Q : Option D → Strm → Prop, Q (if p x then some x else none) s → V (f x) s Q) → R (xs.filter p) s → V (lcD f xs) s R
  | [], _, q => by rw [lcD]; exact V_pure.mpr q
  | x :: xs, h, q => by
    rw [lcD]
    refine V_bind.mpr (h x List.mem_cons_self _ ?_)
    rw [List.filter_cons] at q
    by_cases c : p x = true
    · rw [if_pos c] at q ⊢
      exact V_bind.mpr (V_filt xs (fun y hy => h y (List.mem_cons_of_mem _ hy)) (V_pure.mpr q))
    · rw [if_neg c] at q ⊢
      exact V_bind.mpr (V_filt xs (fun y hy => h y (List.mem_cons_of_mem _ hy)) (V_pure.mpr q))
theorem range_len (n : Nat) : (rangeD 0 n).length = n := by unfold rangeD; rw [List.length_map, List.length_range]
theorem pop_at {ds : List D} {j : Nat} {d : D} (h : ds[j]? = some d) (hl : ds.length ≤ LIM) : popD (.lst true ds) (.int (j : Int)) = pure (d, .lst true (ds.eraseIdx j)) := by
  have hj := (List.getElem?_eq_some_iff.mp h).1
  unfold popD
  simp only [guardM, if_pos hl, pure_bind, pix_nat hj]
  show (do let d ← ofO ds[j]?; pure (d, D.lst true (ds.eraseIdx j))) = _
  rw [h]
  rfl
theorem map_erase {α β : Type} (f : α → β) : ∀ (xs : List α) (k : Nat), (xs.map f).eraseIdx k = (xs.eraseIdx k).map f
  | [], _ => rfl
  | _ :: _, 0 => rfl
  | x :: xs, k + 1 => by
    show f x :: (xs.map f).eraseIdx k = _
    rw [map_erase f xs k]
    rfl
theorem redE_done (rs : List (List Rat)) : ∀ w, (redE rs w).done.length ≤ w ∧ (redE rs w).leads.length ≤ w
  | 0 => ⟨Nat.le_refl _, Nat.le_refl _⟩
  | w + 1 => by
    obtain ⟨h1, h2⟩ := redE_done rs w
    rw [redE_succ]
    unfold stepE
    cases piv (redE rs w).left w with
    | nil => exact ⟨by show (redE rs w).done.length ≤ _; omega, by show (redE rs w).leads.length ≤ _; omega⟩
    | cons k r => exact ⟨by show ((redE rs w).done.map _ ++ [_]).length ≤ _; rw [List.length_append, List.length_map, List.length_singleton]; omega, by show ((redE rs w).leads ++ [_]).length ≤ _; rw [List.length_append, List.length_singleton]; omega⟩
theorem V_truth {o : Bool} {ds : List D} {s : Strm} {Q : Bool → Strm → Prop} : V (truth (.lst o ds)) s Q ↔ Q (!ds.isEmpty) s := V_pure
theorem V_reduced (hz : Γ "is_zero" = some r_is_zero) (hq : Γ "quotient" = some r_quotient) (hle : Γ "lessened" = some d_lessened) (h2 : Γ "reduced" = some d_reduced) {rs : List (List Rat)} {w m : Nat} (h0 : 0 < rs.length) (hl : rs.length ≤ 1000) (hw : w ≤ 1000) (hr : ∀ r ∈ rs, r.length = w) (hS : Sized rs w m) (hb : m < 2200)
    (q : Q (.tup [.lst false ((redE rs w).done.map fun r => .lst false (r.map .rat)), .lst false ((redE rs w).leads.map fun (i : Nat) => D.int i)]) s) : V (callF Γ (k + 3) "reduced" [.lst false (rs.map fun r => .lst false (r.map .rat))]) s Q := by
  refine V_call h2 rfl ?_
  simp only [d_reduced]
  have hlim : (LIM : Int) = 1000000 := rfl
  have hlim2 : LIM = 1000000 := rfl
  have K := encR_rat
  have no := K.rows_no rs
  walk_at "mp nx"
  refine ⟨no, ⟨by rw [List.length_map]; omega, no⟩, ?_⟩
  refine V_mapE (h := fun r : List Rat => mixF .rat (true, r)) _ (fun r hr' R hR => ?_) ?_
  · rw [Elm_eq]
    walk_at "mp mn"
    exact ⟨noOwns_rats' r, hR⟩
  have e0 : rs.map (fun r : List Rat => mixF .rat (true, r)) = (rs.map fun r => (true, r)).map (mixF .rat) := by rw [List.map_map]; rfl
  rw [e0]
  walk_at "mp nx"
  walk_at "mp nx"
  rw [(N1 _).1, V_cons]
  generalize hM : Nxt _ (MSs.cons _ _) _ = M
  walk_at "mp mn"
  obtain ⟨r0, hr0⟩ : ∃ r0, rs[0]? = some r0 := ⟨_, List.getElem?_eq_getElem h0⟩
  have ge : (rs.map fun r => D.lst false (r.map .rat))[0]? = some (.lst false (r0.map .rat)) := by rw [List.getElem?_map, hr0]; rfl
  have wl : r0.length = w := hr r0 (List.mem_of_getElem? hr0)
  refine V_truth.mpr ?_
  rw [show (!(rs.map fun r => D.lst false (r.map .rat)).isEmpty) = true by rw [List.isEmpty_map]; cases rs with | nil => exact absurd h0 (by decide) | cons _ _ => rfl, if_pos rfl, show ixD (.lst false (rs.map fun r => D.lst false (r.map .rat))) (.int 0) = pure (.lst false (r0.map .rat)) from ix_lst (j := 0) ge]
  walk_at "mp mn"
  rw [← hM]
  walk_at "mp nx"
  rw [List.length_map, wl]
  generalize hB : Bdy (callF Γ (k + 2)) _ = B
  refine ⟨noOwns_rats' r0, by omega, range_noOwn, ?_⟩
  refine V_for (fun c e t => t = s ∧ c ≤ w ∧ ∃ fl fd : List (Bool × List Rat), fl.map (·.2) = (redE rs c).left ∧ fd.map (·.2) = (redE rs c).done ∧ e = [some (.lst false (rs.map fun r => .lst false (r.map .rat))), some (.lst true (fl.map (mixF .rat))), none, some (.lst true (fd.map (mixF .rat))), some (.lst true ((redE rs c).leads.map fun (i : Nat) => D.int i)), some (.int (w : Nat)), none, none, none, none, none]) _ 0 ⟨rfl, Nat.zero_le _, rs.map fun r => (true, r), [], by rw [List.map_map]; exact List.map_id _, rfl, rfl⟩ ?_ ?_
  · intro c x e t hx P
    simp only [Int.toNat_natCast] at hx
    obtain ⟨g0, rfl⟩ := range_get hx
    obtain ⟨rfl, g1, fl, fd, efl, efd, rfl⟩ := P
    simp only [Int.zero_add, Nat.zero_add] at efl efd g0 ⊢
    walk_at "mp mn"
    rw [← congrFun hB, Bdy_eq, V_cons]
    generalize hM : Nxt _ (MSs.cons _ _) _ = M
    walk_at "mp mn"
    have fll : fl.length = (redE rs c).left.length := by rw [← efl, List.length_map]
    have fll2 := redE_left rs c
    have okl := red_len hr c
    rw [List.length_map]
    simp only [Int.toNat_natCast]
    refine ⟨by omega, ⟨by rw [range_len]; omega, range_noOwn⟩, ?_⟩
    refine V_filt (p := fun x => match x with | .int j => decide (ent ((redE rs c).left.getD j.toNat []) c ≠ 0) | _ => false) _ (fun x hx Q' hR => ?_) ?_
    · obtain ⟨j, hj⟩ := List.mem_iff_getElem?.mp hx
      obtain ⟨hjn, rfl⟩ := range_get hj
      have hR : Q' (if (decide (ent ((redE rs c).left.getD (0 + (j : Int)).toNat []) c ≠ 0)) = true then some (.int (0 + (j : Int))) else none) t := hR
      rw [Int.zero_add, Int.toNat_natCast] at hR
      rw [Elm_eq]
      simp only [Int.zero_add]
      walk_at "mp mn"
      obtain ⟨o, ho⟩ := mix_at (e := .rat) hjn
      rw [efl] at ho
      rw [ix_lst ho]
      have hrw := okl.1 _ (getD_mem (d := []) (fll ▸ hjn))
      walk_at "mp mn"
      rw [ix_lst (row_at _ (by omega))]
      walk_at "mp mn"
      refine V_iszero hz ?_
      walk_at "mp mn"
      by_cases he : ent ((redE rs c).left.getD j []) c = 0
      · rw [if_neg (by simpa using he)] at hR
        rw [if_neg (by simpa using he)]
        exact hR
      · rw [if_pos (by simpa using he)] at hR
        rw [if_pos (by simpa using he)]
        exact hR
    rw [range_piv fl.length (fun j => decide (ent ((redE rs c).left.getD j []) c ≠ 0)), show (List.range fl.length).filter (fun j => decide (ent ((redE rs c).left.getD j []) c ≠ 0)) = piv (redE rs c).left c by rw [fll]; rfl]
    rw [← hM]
    walk_at "mp nx"
    refine V_truth.mpr ?_
    rw [List.isEmpty_map]
    cases hp : piv (redE rs c).left c with
    | nil =>
      rw [if_neg (by decide)]
      have hst : redE rs (c + 1) = redE rs c := by rw [redE_succ]; unfold stepE; rw [hp]
      rw [hst]
      exact ⟨rfl, by omega, fl, fd, efl, efd, rfl⟩
    | cons p ps =>
      rw [show (!(p :: ps).isEmpty) = true from rfl, if_pos rfl]
      obtain ⟨p1, p2⟩ := piv_mem hp
      have hst : redE rs (c + 1) = ⟨((redE rs c).left.eraseIdx p).map (les (oneR ((redE rs c).left.getD p []) c) c), (redE rs c).done.map (les (oneR ((redE rs c).left.getD p []) c) c) ++ [oneR ((redE rs c).left.getD p []) c], (redE rs c).leads ++ [c]⟩ := by rw [redE_succ]; unfold stepE; rw [hp]
      have ok := hS c (by omega) (by rw [hp]; exact List.cons_ne_nil _ _)
      have p3 := ok.left _ (getD_mem (d := []) p1)
      generalize hrow : (redE rs c).left.getD p [] = row at p2 p3 hst ⊢
      have hone := p3.2.one (by omega) p2
      have hlen1 : (oneR row c).length = w := by unfold oneR; rw [List.length_map, p3.1]
      rw [show ixD (.lst true (List.map (fun (i : Nat) => D.int i) (p :: ps))) (.int 0) = pure (.int (p : Nat)) from ix_lst (j := 0) rfl]
      walk_at "mp mn"
      obtain ⟨o, ho⟩ := mix_at (e := .rat) (fll ▸ p1 : p < fl.length)
      rw [efl, hrow] at ho
      rw [pop_at ho (by rw [List.length_map]; omega), map_erase]
      walk_at "mp mn"
      rw [(N1 _).1]
      walk_at "mp mn"
      rw [(N1 _).1]
      rw [show D.strips (row.map .rat) = row.map .rat from K.strips row]
      walk_at "mp mn"
      refine ⟨noOwns_rats' row, ⟨by rw [List.length_map, p3.1]; omega, noOwns_rats' row⟩, ?_⟩
      have zr := p3.2.zb
      refine V_mapE (h := fun x : Rat => .rat (x / ent row c)) _ (fun x hx R hR => ?_) ?_
      · rw [Elm_eq]
        walk_at "mp mn"
        rw [ix_lst (row_at row (by omega))]
        walk_at "mp mn"
        refine V_rquot hq p2 (Zk.sm (zr _ hx) (by omega)) (Zk.sm (zr _ (ent_mem (by omega))) (by omega)) ?_
        walk_at "mp mn"
        exact hR
      rw [show row.map (fun x : Rat => D.rat (x / ent row c)) = (oneR row c).map .rat by unfold oneR; rw [List.map_map]; rfl]
      generalize oneR row c = one at hone hlen1 hst ⊢
      have zo := hone.zb
      have hnl : ∀ r ∈ (redE rs c).left.eraseIdx p, r.length = w ∧ RB m r := fun r hr' => ok.left r (List.mem_of_mem_eraseIdx hr')
      have efl2 : (fl.eraseIdx p).map (·.2) = (redE rs c).left.eraseIdx p := by rw [← efl, map_erase]
      rw [(N1 _).1]
      walk_at "mp mn"
      rw [K.strips_mix, efl2]
      rw [(N1 _).1]
      walk_at "mp mn"
      rw [K.strips]
      rw [(N1 _).1]
      walk_at "mp mn"
      have lel : ((redE rs c).left.eraseIdx p).length ≤ 1000 := by rw [← efl2, List.length_map, List.length_eraseIdx]; split <;> omega
      refine ⟨K.rows_no _, ⟨by rw [List.length_map]; omega, K.rows_no _⟩, ?_⟩
      refine V_mapE (h := fun r : List Rat => mixF .rat (!decide (ent r c = 0), les one c r)) _ (fun r hr' R hR => ?_) ?_
      · rw [Elm_eq]
        walk_at "mp mn"
        have l1 := hnl r hr'
        rw [K.strips, K.strips]
        refine V_lessened hz hle (one := one) (r := r) (c := c) (m := m + 1) (by omega) (by omega) (by omega) l1.2.zb zo (by omega) ?_
        walk_at "mp mn"
        exact ⟨by rw [noOwns_rats' r, noOwns_rats' one]; exact Or.inr rfl, hR⟩
      obtain ⟨dl1, dl2⟩ := redE_done rs c
      rw [(N1 _).1]
      walk_at "mp mn"
      rw [K.strips_mix, efd]
      rw [(N1 _).1]
      walk_at "mp mn"
      rw [K.strips]
      rw [(N1 _).1]
      walk_at "mp mn"
      refine ⟨K.rows_no _, ⟨by rw [List.length_map]; omega, K.rows_no _⟩, ?_⟩
      refine V_mapE (h := fun r : List Rat => mixF .rat (!decide (ent r c = 0), les one c r)) _ (fun r hr' R hR => ?_) ?_
      · rw [Elm_eq]
        walk_at "mp mn"
        have l1 := ok.done r hr'
        rw [K.strips, K.strips]
        refine V_lessened hz hle (one := one) (r := r) (c := c) (m := m + 1) (by omega) (by omega) (by omega) l1.2.zb zo (by omega) ?_
        walk_at "mp mn"
        exact ⟨by rw [noOwns_rats' r, noOwns_rats' one]; exact Or.inr rfl, hR⟩
      walk_at "mp nx"
      refine ⟨noOwns_rats' one, by rw [List.length_map]; omega, by rw [List.length_map]; omega, by omega, ((redE rs c).left.eraseIdx p).map (fun r => (!decide (ent r c = 0), les one c r)), (redE rs c).done.map (fun r => (!decide (ent r c = 0), les one c r)) ++ [(false, one)], ?_, ?_, ?_⟩
      · rw [hst, List.map_map]; rfl
      · rw [hst, List.map_append, List.map_map]; rfl
      · rw [hst, List.map_map, List.map_append, List.map_map, List.map_append]; rfl
  · rintro e t ⟨rfl, _, fl, fd, efl, efd, rfl⟩
    rw [range_len, Int.toNat_natCast, Nat.zero_add] at efd efl ⊢
    walk_at "mp nx"
    rw [K.strips_mix, efd]
    walk_at "mp nx"
    rw [show D.strips (List.map (fun (i : Nat) => D.int i) (redE rs w).leads) = List.map (fun (i : Nat) => D.int i) (redE rs w).leads from strips_map (fun _ => rfl) _]
    walk_at "mp nx"
    exact ⟨K.rows_no _, noOwns_map (fun _ => rfl) _, q⟩
end
end Mp

namespace Mp
open PySem (Str CmpOp)
def d__law_sub : MDef := ⟨2, 2, (.cons (.ret (.call "_law_q" (.cons (.bin .sub (.bin .mul (.ix (.var 0) (.int 0)) (.ix (.var 1) (.int 1))) (.bin .mul (.ix (.var 1) (.int 0)) (.ix (.var 0) (.int 1)))) (.cons (.bin .mul (.ix (.var 0) (.int 1)) (.ix (.var 1) (.int 1))) .nil)))) .nil)⟩
def r__law_over : MDef := ⟨2, 2, (.cons (.ret (.call "_law_q" (.cons (.bin .mul (.ix (.var 0) (.int 0)) (.ix (.var 1) (.int 1))) (.cons (.bin .mul (.ix (.var 0) (.int 1)) (.ix (.var 1) (.int 0))) .nil)))) .nil)⟩
def d__law_without : MDef := ⟨3, 5, (.cons (.asg (.nm 3) (.ix (.var 0) (.var 2))) (.cons (.ite (.cmp .Eq (.ix (.var 3) (.int 0)) (.int 0)) (.cons (.ret (.var 0)) .nil) .nil) (.cons (.ret (.lc (.nm 4) (.rng (.bi .len (.cons (.var 0) .nil))) .nop (.call "_law_sub" (.cons (.ix (.var 0) (.var 4)) (.cons (.call "_law_mul" (.cons (.var 3) (.cons (.ix (.var 1) (.var 4)) .nil))) .nil))))) .nil)))⟩
def d__law_reduced : MDef := ⟨2, 11, (.cons (.asg (.nm 2) (.lc (.nm 3) (.seq (.var 0)) .nop (.bi .list (.cons (.var 3) .nil)))) (.cons (.asg (.nm 4) (.lst .nil)) (.cons (.asg (.nm 5) (.lst .nil)) (.cons (.loop (.nm 6) (.rng (.var 1)) (.cons (.asg (.nm 7) (.lc (.nm 8) (.rng (.ln (.var 2))) (.cmp .NotEq (.ix (.ix (.ix (.var 2) (.var 8)) (.var 6)) (.int 0)) (.int 0)) (.var 8))) (.cons (.ite (.var 7) (.cons (.frz 2) (.cons (.frz 7) (.cons (.asg (.nm 9) (.ix (.var 2) (.ix (.var 7) (.int 0)))) (.cons (.frz 2) (.cons (.frz 7) (.cons (.asg (.nm 2) (.lc (.nm 8) (.rng (.ln (.var 2))) (.cmp .NotEq (.var 8) (.ix (.var 7) (.int 0))) (.ix (.var 2) (.var 8)))) (.cons (.frz 9) (.cons (.asg (.nm 9) (.lc (.nm 10) (.seq (.var 9)) .nop (.call "_law_over" (.cons (.var 10) (.cons (.ix (.var 9) (.var 6)) .nil))))) (.cons (.frz 2) (.cons (.frz 9) (.cons (.asg (.nm 2) (.lc (.nm 3) (.seq (.var 2)) .nop (.call "_law_without" (.cons (.var 3) (.cons (.var 9) (.cons (.var 6) .nil)))))) (.cons (.frz 4) (.cons (.frz 9) (.cons (.asg (.nm 4) (.bin .add (.lc (.nm 3) (.seq (.var 4)) .nop (.call "_law_without" (.cons (.var 3) (.cons (.var 9) (.cons (.var 6) .nil))))) (.lst (.cons (.var 9) .nil)))) (.cons (.app 5 (.var 6)) .nil))))))))))))))) .nil) .nil)) [6, 7, 9]) (.cons (.frz 4) (.cons (.frz 5) (.cons (.ret (.tup (.cons (.var 4) (.cons (.var 5) .nil)))) .nil)))))))⟩
def d__law_solution : MDef := ⟨2, 7, (.cons (.asg (.nm 2) (.bi .len (.cons (.ix (.var 0) (.int 0)) .nil))) (.cons (.asg (.tup [3, 4]) (.call "_law_reduced" (.cons (.fz (.lc (.nm 5) (.rng (.bi .len (.cons (.var 0) .nil))) .nop (.bin .add (.ix (.var 0) (.var 5)) (.lst (.cons (.ix (.var 1) (.var 5)) .nil))))) (.cons (.bin .add (.var 2) (.int 1)) .nil)))) (.cons (.ite (.cmp .NotEq (.var 4) (.lc (.nm 5) (.rng (.var 2)) .nop (.var 5))) (.cons (.ret .non) .nil) .nil) (.cons (.ret (.lc (.nm 6) (.seq (.var 3)) .nop (.ix (.var 6) (.var 2)))) .nil))))⟩
/-- the rows of equations, with their right sides -/
def augE (rows : List (List Rat)) (cs : List Rat) : List (List Rat) := List.zipWith (fun r c => r ++ [c]) rows cs
def solE (rows : List (List Rat)) (cs : List Rat) (w : Nat) : Option (List Rat) := if (redE (augE rows cs) (w + 1)).leads = List.range w then some ((redE (augE rows cs) (w + 1)).done.map fun r => ent r w) else none
theorem eqvs_dec {α : Type} [DecidableEq α] {f : α → D} (h : ∀ x y, D.eqv (f x) (f y) = some (decide (x = y))) : ∀ xs ys : List α, D.eqvs (xs.map f) (ys.map f) = some (decide (xs = ys))
  | [], [] => rfl
  | [], _ :: _ => rfl
  | _ :: _, [] => rfl
  | x :: xs, y :: ys => by
    show (match D.eqv (f x) (f y) with | some true => D.eqvs (xs.map f) (ys.map f) | r => r) = _
    rw [h]
    by_cases c : x = y
    · rw [decide_eq_true c]
      show D.eqvs (xs.map f) (ys.map f) = _
      rw [eqvs_dec h xs ys]
      simp [c]
    · rw [decide_eq_false c]
      simp [c]
theorem lst_dec {α : Type} [DecidableEq α] {f : α → D} (h : ∀ x y, D.eqv (f x) (f y) = some (decide (x = y))) (o o' : Bool) (xs ys : List α) : D.eqv (.lst o (xs.map f)) (.lst o' (ys.map f)) = some (decide (xs = ys)) := by
  show (if (xs.map f).length = (ys.map f).length then D.eqvs (xs.map f) (ys.map f) else some false) = _
  by_cases c : xs.length = ys.length
  · rw [if_pos (by rw [List.length_map, List.length_map, c]), eqvs_dec h]
  · rw [if_neg (by rw [List.length_map, List.length_map]; exact c), decide_eq_false (fun z => c (by rw [z]))]
theorem plains_mapR {α : Type} {f : α → D} {m : Nat} (h : ∀ x, (f x).plain m = true) : ∀ xs : List α, D.plains (xs.map f) m = true
  | [] => rfl
  | x :: xs => by
    show ((f x).plain m && D.plains (xs.map f) m) = true
    rw [h, plains_mapR h xs]
    rfl
theorem can_dec {α : Type} {f : α → D} (h : ∀ x, (f x).plain 39 = true) (b o o' : Bool) (xs ys : List α) : canC b (.lst o (xs.map f)) (.lst o' (ys.map f)) = true := by
  have p : ∀ (o : Bool) (xs : List α), (D.lst o (xs.map f)).plain 40 = true := fun o xs => plains_mapR h xs
  unfold canC canCmp
  rw [p, p]
  simp
theorem cmpNe_dec {α : Type} [DecidableEq α] {f : α → D} (h : ∀ x y, D.eqv (f x) (f y) = some (decide (x = y))) (hp : ∀ x, (f x).plain 39 = true) {o o' : Bool} {xs ys : List α} : cmpD .NotEq (.lst o (xs.map f)) (.lst o' (ys.map f)) = pure (!decide (xs = ys)) := by
  show (do guardM (canC true _ _ = true); let r ← ofO (D.eqv (.lst o (xs.map f)) (.lst o' (ys.map f))); pure (!r)) = (pure _ : M Bool)
  rw [lst_dec h]
  unfold guardM
  rw [if_pos (can_dec hp _ _ _ _ _)]
  rfl
theorem nat_dec (x y : Nat) : D.eqv (.int x) (.int y) = some (decide (x = y)) := by
  show some ((x : Int) == (y : Int)) = _
  by_cases c : x = y
  · rw [c]; simp
  · rw [decide_eq_false c, beq_eq_false_iff_ne.mpr (by omega)]
theorem range_nat (n : Nat) : rangeD 0 n = (List.range n).map fun (i : Nat) => D.int i := by
  unfold rangeD
  exact List.map_congr_left fun i _ => by rw [Int.zero_add]
section
variable {Γ : String → Option MDef} {k : Nat} {s : Strm} {Q : D → Strm → Prop}
theorem zipD_map {α β : Type} (f : α → D) (g : β → D) : ∀ (xs : List α) (ys : List β), zipD (xs.map f) (ys.map g) = (List.zip xs ys).map fun p => .tup [f p.1, g p.2]
  | [], _ => rfl
  | _ :: _, [] => rfl
  | x :: xs, y :: ys => congrArg (D.tup [f x, g y] :: ·) (zipD_map f g xs ys)
def solD (e : Rat → D) : Option (List Rat) → D
  | none => .non
  | some xs => .lst true (xs.map e)
theorem V_solve (hz : Γ "is_zero" = some r_is_zero) (hq : Γ "quotient" = some r_quotient) (hle : Γ "lessened" = some d_lessened) (hre : Γ "reduced" = some d_reduced) (h2 : Γ "solve" = some d_solve) {rows : List (List Rat)} {cs : List Rat} {w m : Nat} (h0 : 0 < rows.length) (hl : rows.length ≤ 900) (hw : w ≤ 900) (hc : cs.length = rows.length) (hr : ∀ r ∈ rows, r.length = w) (hS : Sized (augE rows cs) (w + 1) m) (hb : m < 2200)
    (q : Q (solD .rat (solE rows cs w)) s) : V (callF Γ (k + 4) "solve" [.lst false (rows.map fun r => .lst false (r.map .rat)), .lst false (cs.map .rat)]) s Q := by
  refine V_call h2 rfl ?_
  simp only [d_solve]
  have hlim : (LIM : Int) = 1000000 := rfl
  have hlim2 : LIM = 1000000 := rfl
  have K := encR_rat
  have no := K.rows_no rows
  obtain ⟨r0, hr0⟩ : ∃ r0, rows[0]? = some r0 := ⟨_, List.getElem?_eq_getElem h0⟩
  have ge : (rows.map fun r => D.lst false (r.map .rat))[0]? = some (.lst false (r0.map .rat)) := by rw [List.getElem?_map, hr0]; rfl
  have wl : r0.length = w := hr r0 (List.mem_of_getElem? hr0)
  walk_at "mp mn"
  rw [show ixD (.lst false (rows.map fun r => D.lst false (r.map .rat))) (.int 0) = pure (.lst false (r0.map .rat)) from ix_lst (j := 0) ge]
  walk_at "mp nx"
  rw [List.length_map, wl]
  refine ⟨noOwns_rats' r0, ?_⟩
  rw [zipD_map]
  have lz : (List.zip rows cs).length ≤ 900 := by rw [List.length_zip]; omega
  refine ⟨no, noOwns_rats' cs, ⟨no, noOwns_rats' cs⟩, ⟨by rw [List.length_map]; omega, noOwns_map (fun p => by show (D.noOwns (p.1.map .rat) && _) = true; rw [noOwns_rats']; rfl) _⟩, ?_⟩
  refine V_mapE (h := fun p : List Rat × Rat => mixF .rat (true, p.1 ++ [p.2])) _ (fun p hp R hR => ?_) ?_
  · rw [Elm_eq]
    walk_at "mp mn"
    have l1 := hr _ (List.of_mem_zip hp).1
    refine ⟨noOwns_rats' p.1, by rw [List.length_map]; omega, ?_⟩
    rw [show p.1.map D.rat ++ [.rat p.2] = (p.1 ++ [p.2]).map .rat by rw [List.map_append]; rfl]
    exact hR
  have e0 : (List.zip rows cs).map (fun p : List Rat × Rat => mixF .rat (true, p.1 ++ [p.2])) = ((List.zip rows cs).map fun p => (true, p.1 ++ [p.2])).map (mixF .rat) := by rw [List.map_map]; rfl
  have e1 : ((List.zip rows cs).map fun p => (true, p.1 ++ [p.2])).map (·.2) = augE rows cs := by
    unfold augE
    rw [← List.map_uncurry_zip_eq_zipWith, List.map_map]; rfl
  rw [e0, K.strips_mix, e1, K.rows_strips]
  have la : (augE rows cs).length = rows.length := by unfold augE; rw [List.length_zipWith]; omega
  refine V_reduced (w := w + 1) (m := m) hz hq hle hre (by omega) (by omega) (by omega) (fun r hr' => ?_) hS hb ?_
  · unfold augE at hr'
    rw [← List.map_uncurry_zip_eq_zipWith] at hr'
    obtain ⟨p, hp, rfl⟩ := List.mem_map.mp hr'
    have := hr _ (List.of_mem_zip hp).1
    show (p.1 ++ [p.2]).length = _
    rw [List.length_append, List.length_singleton]
    omega
  walk_at "mp mn"
  refine ⟨Or.inr (K.rows_no _), ?_⟩
  walk_at "mp nx"
  rw [Int.toNat_natCast, range_nat, cmpNe_dec nat_dec (fun _ => rfl)]
  refine ⟨by omega, ?_⟩
  walk_at "mp mn"
  unfold solE at q
  by_cases hc2 : (redE (augE rows cs) (w + 1)).leads = List.range w
  · rw [if_neg (by simpa using hc2)]
    rw [if_pos hc2] at q
    walk_at "mp nx"
    obtain ⟨dl1, dl2⟩ := redE_done (augE rows cs) (w + 1)
    have lw : ∀ r ∈ augE rows cs, r.length = w + 1 := fun r hr' => by
      unfold augE at hr'
      rw [← List.map_uncurry_zip_eq_zipWith] at hr'
      obtain ⟨p, hp, rfl⟩ := List.mem_map.mp hr'
      have := hr _ (List.of_mem_zip hp).1
      show (p.1 ++ [p.2]).length = _
      rw [List.length_append, List.length_singleton]
      omega
    refine ⟨K.rows_no _, ⟨by rw [List.length_map]; omega, K.rows_no _⟩, ?_⟩
    refine V_mapE (h := fun r : List Rat => .rat (ent r w)) _ (fun r hr' R hR => ?_) ?_
    · have l1 := (red_len lw (w + 1)).2 r hr'
      rw [Elm_eq]
      walk_at "mp mn"
      rw [ix_lst (row_at r (by omega))]
      walk_at "mp mn"
      exact hR
    rw [show solD .rat (some ((redE (augE rows cs) (w + 1)).done.map fun r => ent r w)) = .lst true ((redE (augE rows cs) (w + 1)).done.map fun r => D.rat (ent r w)) by show D.lst true (List.map D.rat _) = _; rw [List.map_map]; rfl] at q
    exact q
  · rw [if_pos (by simpa using hc2)]
    rw [if_neg hc2] at q
    exact q
theorem V_rsub (hdv : Γ "_law_divisor" = some d__law_divisor) (hq : Γ "_law_q" = some d__law_q) (h2 : Γ "_law_sub" = some d__law_sub) {a b : Rat} {m n : Nat} (ha : Zb m m a) (hb : Zb n n b) (c : m + n < 3250) (q : Q (pr (a - b)) s) : V (callF Γ (k + 3) "_law_sub" [pr a, pr b]) s Q := by
  refine V_call h2 rfl ?_
  simp only [d__law_sub, pr]
  walk_at "mp ms"
  have sa := Zk.sm ha (by omega)
  have sb := Zk.sm hb (by omega)
  have hd : ((a.den : Int) * (b.den : Int)).natAbs < 2 ^ 3250 := by
    rw [Int.natAbs_mul, Int.natAbs_natCast, Int.natAbs_natCast]
    refine Nat.lt_of_le_of_lt (Nat.mul_le_mul ha.den hb.den) ?_
    rw [← Nat.pow_add]
    exact Nat.pow_lt_pow_right (by decide) c
  refine ⟨sm_mul sa.num (by simpa using sb.den), sm_mul sb.num (by simpa using sa.den), sm_mul (by simpa using sa.den) (by simpa using sb.den), V_q hdv hq rat_den_ne hd ?_⟩
  rw [rat_subE]
  exact q
theorem V_rover (hdv : Γ "_law_divisor" = some d__law_divisor) (hq : Γ "_law_q" = some d__law_q) (h2 : Γ "_law_over" = some r__law_over) {a b : Rat} {m n : Nat} (h0 : b ≠ 0) (ha : Zb m m a) (hb : Zb n n b) (c : m + n < 3250) (q : Q (pr (a / b)) s) : V (callF Γ (k + 3) "_law_over" [pr a, pr b]) s Q := by
  refine V_call h2 rfl ?_
  simp only [r__law_over, pr]
  walk_at "mp ms"
  have sa := Zk.sm ha (by omega)
  have sb := Zk.sm hb (by omega)
  have h1 : (a.den : Int) ≠ 0 := by have := a.den_nz; omega
  have h3 : b.num ≠ 0 := fun z => h0 (Rat.num_eq_zero.mp z)
  have hd : ((a.den : Int) * b.num).natAbs < 2 ^ 3250 := by
    rw [Int.natAbs_mul, Int.natAbs_natCast]
    refine Nat.lt_of_le_of_lt (Nat.mul_le_mul ha.den (Nat.le_of_lt hb.num)) ?_
    rw [← Nat.pow_add]
    exact Nat.pow_lt_pow_right (by decide) c
  refine ⟨sm_mul sa.num (by simpa using sb.den), sm_mul (by simpa using sa.den) sb.num, V_q hdv hq (Int.mul_ne_zero h1 h3) hd ?_⟩
  rw [rat_divE h0]
  exact q
theorem aug_range (rows : List (List Rat)) (cs : List Rat) (h : cs.length = rows.length) : (List.range rows.length).map (fun i => rows.getD i [] ++ [ent cs i]) = augE rows cs := by
  unfold augE
  refine List.ext_getElem? fun i => ?_
  rw [List.getElem?_map, List.getElem?_zipWith]
  by_cases c : i < rows.length
  · rw [List.getElem?_range c, List.getElem?_eq_getElem c, List.getElem?_eq_getElem (show i < cs.length by omega)]
    show some (rows.getD i [] ++ [ent cs i]) = some (rows[i] ++ [cs[i]])
    unfold ent
    rw [List.getD_eq_getElem?_getD, List.getElem?_eq_getElem c, List.getD_eq_getElem?_getD, List.getElem?_eq_getElem (show i < cs.length by omega)]
    rfl
  · rw [List.getElem?_eq_none (by rw [List.length_range]; omega), List.getElem?_eq_none (show rows.length ≤ i by omega)]
    rfl
theorem zw_range (r one : List Rat) (f : Rat → Rat → Rat) (h : one.length = r.length) : (List.range r.length).map (fun i => f (ent r i) (ent one i)) = List.zipWith f r one := by
  refine List.ext_getElem? fun i => ?_
  rw [List.getElem?_map, List.getElem?_zipWith]
  by_cases c : i < r.length
  · rw [List.getElem?_range c, List.getElem?_eq_getElem c, List.getElem?_eq_getElem (show i < one.length by omega)]
    show some (f (ent r i) (ent one i)) = some (f r[i] one[i])
    unfold ent
    rw [List.getD_eq_getElem?_getD, List.getElem?_eq_getElem c, List.getD_eq_getElem?_getD, List.getElem?_eq_getElem (show i < one.length by omega)]
    rfl
  · rw [List.getElem?_eq_none (by rw [List.length_range]; omega), List.getElem?_eq_none (show r.length ≤ i by omega)]
    rfl
theorem V_lawwithout (hdv : Γ "_law_divisor" = some d__law_divisor) (hq : Γ "_law_q" = some d__law_q) (hmu : Γ "_law_mul" = some d__law_mul) (hsu : Γ "_law_sub" = some d__law_sub) (h2 : Γ "_law_without" = some d__law_without) {r one : List Rat} {c m : Nat} (hc : c < r.length) (hl : one.length = r.length) (hl2 : r.length ≤ 1000) (hr : ∀ x ∈ r, Zb m m x) (ho : ∀ x ∈ one, Zb m m x) (hm : 3 * m < 3250) (q : Q (.lst (!decide (ent r c = 0)) ((les one c r).map pr)) s) :
    V (callF Γ (k + 4) "_law_without" [.lst false (r.map pr), .lst false (one.map pr), .int (c : Nat)]) s Q := by
  refine V_call h2 rfl ?_
  simp only [d__law_without]
  have hlim : (LIM : Int) = 1000000 := rfl
  have hlim2 : LIM = 1000000 := rfl
  walk_at "mp nx"
  rw [ix_lst (row_at (e := pr) r hc)]
  walk_at "mp nx"
  simp only [pr]
  walk_at "mp nx"
  rw [num_eq0]
  have no := noOwns_prs' r
  by_cases h0 : ent r c = 0
  · rw [if_pos (by simpa using h0)]
    rw [decide_eq_true h0, show les one c r = r from if_pos h0] at q
    exact ⟨no, q⟩
  · rw [if_neg (by simpa using h0)]
    rw [decide_eq_false h0, show les one c r = List.zipWith (fun a b => a - ent r c * b) r one from if_neg h0] at q
    rw [List.length_map, Int.toNat_natCast]
    refine ⟨no, by omega, ⟨by rw [range_len]; omega, range_noOwn⟩, ?_⟩
    rw [range_nat]
    refine V_mapE (h := fun i : Nat => pr (ent r i - ent r c * ent one i)) _ (fun i hi R hR => ?_) ?_
    · have hi := List.mem_range.mp hi
      have z1 := hr _ (ent_mem hi)
      have z2 := ho _ (ent_mem (show i < one.length by omega))
      have z3 := hr _ (ent_mem hc)
      rw [Elm_eq]
      walk_at "mp mn"
      rw [ix_lst (row_at (e := pr) r hi)]
      walk_at "mp mn"
      rw [ix_lst (row_at (e := pr) one (show i < one.length by omega))]
      walk_at "mp mn"
      refine V_rmul hdv hq hmu z3 z2 (by omega) ?_
      walk_at "mp mn"
      refine V_rsub hdv hq hsu z1 (Zk.mul z3 z2) (by omega) ?_
      exact hR
    · have e1 : (List.range r.length).map (fun i => pr (ent r i - ent r c * ent one i)) = ((List.range r.length).map fun i => ent r i - ent r c * ent one i).map pr := by rw [List.map_map]; rfl
      rw [e1, zw_range r one (fun a b => a - ent r c * b) hl]
      exact q
theorem erase_range {α : Type} (d : α) (xs : List α) {k : Nat} (hk : k < xs.length) : ((List.range xs.length).filter fun j => !(j == k)).map (fun j => xs.getD j d) = xs.eraseIdx k := by
  have h : ∀ (xs : List α) (b k : Nat), k < xs.length → ((List.range' b xs.length).filter fun j => !(j == b + k)).map (fun j => xs.getD (j - b) d) = xs.eraseIdx k := by
    intro xs
    induction xs with
    | nil => intro b k h; exact absurd h (Nat.not_lt_zero _)
    | cons x xs ih =>
      intro b k h
      have tail : ∀ p : Nat → Bool, ((List.range' (b + 1) xs.length).filter p).map (fun j => (x :: xs).getD (j - b) d) = ((List.range' (b + 1) xs.length).filter p).map (fun j => xs.getD (j - (b + 1)) d) := fun p => List.map_congr_left fun j hj => by
        have := (List.mem_range'_1.mp (List.mem_filter.mp hj).1).1
        rw [show j - b = (j - (b + 1)) + 1 by omega]
        rfl
      rw [List.length_cons, List.range'_succ, List.filter_cons]
      cases k with
      | zero =>
        rw [if_neg (by simp), tail]
        show _ = xs
        have e : (List.range' (b + 1) xs.length).filter (fun j => !(j == b + 0)) = List.range' (b + 1) xs.length := List.filter_eq_self.mpr fun j hj => by
          have := (List.mem_range'_1.mp hj).1
          have : (j == b + 0) = false := beq_eq_false_iff_ne.mpr (by omega)
          rw [this]; rfl
        rw [e]
        refine List.ext_getElem? fun i => ?_
        rw [List.getElem?_map]
        by_cases c : i < xs.length
        · rw [List.getElem?_eq_getElem (by rw [List.length_range']; exact c), List.getElem_range', List.getElem?_eq_getElem c]
          show some (xs.getD (b + 1 + 1 * i - (b + 1)) d) = _
          rw [show b + 1 + 1 * i - (b + 1) = i by omega, List.getD_eq_getElem?_getD, List.getElem?_eq_getElem c]
          rfl
        · rw [List.getElem?_eq_none (by rw [List.length_range']; omega), List.getElem?_eq_none (by omega)]
          rfl
      | succ k =>
        have : (b == b + (k + 1)) = false := beq_eq_false_iff_ne.mpr (by omega)
        rw [this, if_pos (by decide), List.map_cons, tail, show b + (k + 1) = b + 1 + k by omega, ih (b + 1) k (by simpa using h)]
        show (x :: xs).getD (b - b) d :: _ = x :: xs.eraseIdx k
        rw [Nat.sub_self]
        rfl
  have := h xs 0 k hk
  simp only [Nat.zero_add, Nat.sub_zero] at this
  rw [List.range_eq_range']
  exact this
theorem V_filE {α : Type} {f : D → M (Option D)} {s : Strm} {e h : α → D} {p : α → Bool} {Q : List D → Strm → Prop} : ∀ (xs : List α), (∀ x ∈ xs, ∀ R : Option D → Strm → Prop, R (if p x then some (h x) else none) s → V (f (e x)) s R) → Q ((xs.filter p).map h) s → V (lcD f (xs.map e)) s Q
  | [], _, q => by rw [List.map_nil, lcD]; exact V_pure.mpr q
  | x :: xs, hf, q => by
    rw [List.map_cons, lcD]
    refine V_bind.mpr (hf x List.mem_cons_self _ ?_)
    rw [List.filter_cons] at q
    by_cases c : p x = true
    · rw [if_pos c] at q ⊢
      exact V_bind.mpr (V_filE xs (fun y hy => hf y (List.mem_cons_of_mem _ hy)) (V_pure.mpr q))
    · rw [if_neg c] at q ⊢
      exact V_bind.mpr (V_filE xs (fun y hy => hf y (List.mem_cons_of_mem _ hy)) (V_pure.mpr q))
theorem V_lawreduced (hdv : Γ "_law_divisor" = some d__law_divisor) (hq : Γ "_law_q" = some d__law_q) (hmu : Γ "_law_mul" = some d__law_mul) (hsu : Γ "_law_sub" = some d__law_sub) (hov : Γ "_law_over" = some r__law_over) (hwi : Γ "_law_without" = some d__law_without) (h2 : Γ "_law_reduced" = some d__law_reduced) {rs : List (List Rat)} {w m : Nat} (hl : rs.length ≤ 1000) (hw : w ≤ 1000) (hr : ∀ r ∈ rs, r.length = w) (hS : Sized rs w m) (hb : m < 1082)
    (q : Q (.tup [.lst false ((redE rs w).done.map fun r => .lst false (r.map pr)), .lst false ((redE rs w).leads.map fun (i : Nat) => D.int i)]) s) : V (callF Γ (k + 5) "_law_reduced" [.lst false (rs.map fun r => .lst false (r.map pr)), .int (w : Nat)]) s Q := by
  refine V_call h2 rfl ?_
  simp only [d__law_reduced]
  have hlim : (LIM : Int) = 1000000 := rfl
  have hlim2 : LIM = 1000000 := rfl
  have K := encR_pr
  have no := K.rows_no rs
  walk_at "mp nx"
  refine ⟨no, ⟨by rw [List.length_map]; omega, no⟩, ?_⟩
  refine V_mapE (h := fun r : List Rat => mixF pr (true, r)) _ (fun r hr' R hR => ?_) ?_
  · rw [Elm_eq]
    walk_at "mp mn"
    exact ⟨noOwns_prs' r, hR⟩
  have e0 : rs.map (fun r : List Rat => mixF pr (true, r)) = (rs.map fun r => (true, r)).map (mixF pr) := by rw [List.map_map]; rfl
  rw [e0]
  walk_at "mp nx"
  walk_at "mp nx"
  walk_at "mp nx"
  generalize hB : Bdy (callF Γ (k + 4)) _ = B
  refine ⟨by omega, range_noOwn, ?_⟩
  refine V_for (fun c e t => t = s ∧ c ≤ w ∧ ∃ fl fd : List (Bool × List Rat), fl.map (·.2) = (redE rs c).left ∧ fd.map (·.2) = (redE rs c).done ∧ e = [some (.lst false (rs.map fun r => .lst false (r.map pr))), some (.int (w : Nat)), some (.lst true (fl.map (mixF pr))), none, some (.lst true (fd.map (mixF pr))), some (.lst true ((redE rs c).leads.map fun (i : Nat) => D.int i)), none, none, none, none, none]) _ 0 ⟨rfl, Nat.zero_le _, rs.map fun r => (true, r), [], by rw [List.map_map]; exact List.map_id _, rfl, rfl⟩ ?_ ?_
  · intro c x e t hx P
    simp only [Int.toNat_natCast] at hx
    obtain ⟨g0, rfl⟩ := range_get hx
    obtain ⟨rfl, g1, fl, fd, efl, efd, rfl⟩ := P
    simp only [Int.zero_add, Nat.zero_add] at efl efd g0 ⊢
    walk_at "mp mn"
    rw [← congrFun hB, Bdy_eq, V_cons]
    generalize hM : Nxt _ (MSs.cons _ _) _ = M
    walk_at "mp mn"
    have fll : fl.length = (redE rs c).left.length := by rw [← efl, List.length_map]
    have fll2 := redE_left rs c
    have okl := red_len hr c
    rw [List.length_map]
    simp only [Int.toNat_natCast]
    refine ⟨by omega, ⟨by rw [range_len]; omega, range_noOwn⟩, ?_⟩
    rw [range_nat]
    refine V_filE (p := fun j => decide (ent ((redE rs c).left.getD j []) c ≠ 0)) (h := fun (j : Nat) => D.int j) _ (fun j hj Q' hR => ?_) ?_
    · have hjn := List.mem_range.mp hj
      rw [Elm_eq]
      walk_at "mp mn"
      obtain ⟨o, ho⟩ := mix_at (e := pr) hjn
      rw [efl] at ho
      rw [ix_lst ho]
      have hrw := okl.1 _ (getD_mem (d := []) (fll ▸ hjn))
      walk_at "mp mn"
      rw [ix_lst (row_at (e := pr) _ (by omega))]
      simp only [pr]
      walk_at "mp mn"
      rw [num_eq0]
      by_cases he : ent ((redE rs c).left.getD j []) c = 0
      · rw [if_neg (by simpa using he)] at hR
        rw [if_neg (by simpa using he)]
        exact hR
      · rw [if_pos (by simpa using he)] at hR
        rw [if_pos (by simpa using he)]
        exact hR
    rw [show (List.range fl.length).filter (fun j => decide (ent ((redE rs c).left.getD j []) c ≠ 0)) = piv (redE rs c).left c by rw [fll]; rfl]
    rw [← hM]
    walk_at "mp nx"
    refine V_truth.mpr ?_
    rw [List.isEmpty_map]
    cases hp : piv (redE rs c).left c with
    | nil =>
      rw [if_neg (by decide)]
      have hst : redE rs (c + 1) = redE rs c := by rw [redE_succ]; unfold stepE; rw [hp]
      rw [hst]
      exact ⟨rfl, by omega, fl, fd, efl, efd, rfl⟩
    | cons p ps =>
      rw [show (!(p :: ps).isEmpty) = true from rfl, if_pos rfl]
      obtain ⟨p1, p2⟩ := piv_mem hp
      have hst : redE rs (c + 1) = ⟨((redE rs c).left.eraseIdx p).map (les (oneR ((redE rs c).left.getD p []) c) c), (redE rs c).done.map (les (oneR ((redE rs c).left.getD p []) c) c) ++ [oneR ((redE rs c).left.getD p []) c], (redE rs c).leads ++ [c]⟩ := by rw [redE_succ]; unfold stepE; rw [hp]
      have ok := hS c (by omega) (by rw [hp]; exact List.cons_ne_nil _ _)
      have p3 := ok.left _ (getD_mem (d := []) p1)
      have sp : ∀ ps : List Nat, D.strips (ps.map fun (i : Nat) => D.int i) = ps.map fun (i : Nat) => D.int i := fun ps => strips_map (fun _ => rfl) ps
      walk_at "mp mn"
      rw [K.strips_mix, efl]
      rw [(N1 _).1]
      walk_at "mp mn"
      rw [sp]
      rw [(N1 _).1]
      have gl : ∀ j, j < (redE rs c).left.length → ((redE rs c).left.map fun r => D.lst false (r.map pr))[j]? = some (.lst false (((redE rs c).left.getD j []).map pr)) := fun j hj => by
        rw [List.getElem?_map, List.getElem?_eq_getElem hj, List.getD_eq_getElem?_getD, List.getElem?_eq_getElem hj]; rfl
      have ix0 : ixD (.lst false (D.int (p : Nat) :: ps.map fun (i : Nat) => D.int i)) (.int 0) = pure (.int (p : Nat)) := ix_lst (j := 0) rfl
      walk_at "mp mn"
      rw [ix_lst (gl p p1)]
      walk_at "mp mn"
      rw [(N1 _).1]
      walk_at "mp mn"
      rw [K.rows_strips]
      rw [(N1 _).1]
      walk_at "mp mn"
      rw [sp]
      rw [(N1 _).1]
      walk_at "mp mn"
      rw [List.length_map]
      simp only [Int.toNat_natCast]
      refine ⟨noOwns_prs' _, by omega, ⟨by rw [range_len]; omega, range_noOwn⟩, ?_⟩
      rw [range_nat]
      refine V_filE (p := fun j => !(j == p)) (h := fun j => .lst false (((redE rs c).left.getD j []).map pr)) _ (fun j hj Q' hR => ?_) ?_
      · have hjn := List.mem_range.mp hj
        rw [Elm_eq]
        walk_at "mp mn"
        walk_at "mp mn"
        by_cases e : j = p
        · rw [if_neg (by simp [e])] at hR
          rw [if_neg (by simp [e])]
          exact hR
        · rw [if_pos (by simpa using e)] at hR
          rw [if_pos (by have : ((j : Int) == (p : Int)) = false := beq_eq_false_iff_ne.mpr (by omega); rw [this]; rfl), ix_lst (gl j hjn)]
          walk_at "mp mn"
          exact ⟨noOwns_prs' _, hR⟩
      rw [show (List.filter (fun j => !(j == p)) (List.range (redE rs c).left.length)).map (fun j => D.lst false (((redE rs c).left.getD j []).map pr)) = ((redE rs c).left.eraseIdx p).map (fun r => D.lst false (r.map pr)) by rw [← erase_range [] _ p1, List.map_map]; rfl]
      generalize hrow : (redE rs c).left.getD p [] = row at p2 p3 hst ⊢
      have hone := p3.2.one (by omega) p2
      have hlen1 : (oneR row c).length = w := by unfold oneR; rw [List.length_map, p3.1]
      have zr := p3.2.zb
      have zo := hone.zb
      have hnl : ∀ r ∈ (redE rs c).left.eraseIdx p, r.length = w ∧ RB m r := fun r hr' => ok.left r (List.mem_of_mem_eraseIdx hr')
      have lel : ((redE rs c).left.eraseIdx p).length ≤ 1000 := by rw [List.length_eraseIdx]; split <;> omega
      obtain ⟨dl1, dl2⟩ := redE_done rs c
      rw [(N1 _).1]
      walk_at "mp mn"
      rw [K.strips]
      rw [(N1 _).1]
      walk_at "mp mn"
      refine ⟨noOwns_prs' row, ⟨by rw [List.length_map, p3.1]; omega, noOwns_prs' row⟩, ?_⟩
      refine V_mapE (h := fun x : Rat => pr (x / ent row c)) _ (fun x hx R hR => ?_) ?_
      · rw [Elm_eq]
        walk_at "mp mn"
        rw [ix_lst (row_at row (by omega))]
        walk_at "mp mn"
        refine V_rover hdv hq hov p2 (zr _ hx) (zr _ (ent_mem (by omega))) (by omega) ?_
        walk_at "mp mn"
        exact hR
      rw [show row.map (fun x : Rat => pr (x / ent row c)) = (oneR row c).map pr by unfold oneR; rw [List.map_map]; rfl]
      generalize oneR row c = one at hone hlen1 hst zo ⊢
      rw [(N1 _).1]
      walk_at "mp mn"
      rw [K.rows_strips]
      rw [(N1 _).1]
      walk_at "mp mn"
      rw [K.strips]
      rw [(N1 _).1]
      walk_at "mp mn"
      refine ⟨K.rows_no _, ⟨by rw [List.length_map]; omega, K.rows_no _⟩, ?_⟩
      refine V_mapE (h := fun r : List Rat => mixF pr (!decide (ent r c = 0), les one c r)) _ (fun r hr' R hR => ?_) ?_
      · rw [Elm_eq]
        walk_at "mp mn"
        have l1 := hnl r hr'
        rw [K.strips, K.strips]
        refine V_lawwithout hdv hq hmu hsu hwi (one := one) (r := r) (c := c) (m := m + 1) (by omega) (by omega) (by omega) l1.2.zb zo (by omega) ?_
        walk_at "mp mn"
        exact ⟨by rw [noOwns_prs' r, noOwns_prs' one]; exact Or.inr rfl, hR⟩
      rw [(N1 _).1]
      walk_at "mp mn"
      rw [K.strips_mix, efd]
      rw [(N1 _).1]
      walk_at "mp mn"
      rw [K.strips]
      rw [(N1 _).1]
      walk_at "mp mn"
      refine ⟨K.rows_no _, ⟨by rw [List.length_map]; omega, K.rows_no _⟩, ?_⟩
      refine V_mapE (h := fun r : List Rat => mixF pr (!decide (ent r c = 0), les one c r)) _ (fun r hr' R hR => ?_) ?_
      · rw [Elm_eq]
        walk_at "mp mn"
        have l1 := ok.done r hr'
        rw [K.strips, K.strips]
        refine V_lawwithout hdv hq hmu hsu hwi (one := one) (r := r) (c := c) (m := m + 1) (by omega) (by omega) (by omega) l1.2.zb zo (by omega) ?_
        walk_at "mp mn"
        exact ⟨by rw [noOwns_prs' r, noOwns_prs' one]; exact Or.inr rfl, hR⟩
      walk_at "mp nx"
      refine ⟨noOwns_prs' one, by rw [List.length_map]; omega, by rw [List.length_map]; omega, by omega, ((redE rs c).left.eraseIdx p).map (fun r => (!decide (ent r c = 0), les one c r)), (redE rs c).done.map (fun r => (!decide (ent r c = 0), les one c r)) ++ [(false, one)], ?_, ?_, ?_⟩
      · rw [hst, List.map_map]; rfl
      · rw [hst, List.map_append, List.map_map]; rfl
      · rw [hst, List.map_map, List.map_append, List.map_map, List.map_append]; rfl
  · rintro e t ⟨rfl, _, fl, fd, efl, efd, rfl⟩
    rw [range_len, Int.toNat_natCast, Nat.zero_add] at efd efl ⊢
    walk_at "mp nx"
    rw [K.strips_mix, efd]
    walk_at "mp nx"
    rw [show D.strips (List.map (fun (i : Nat) => D.int i) (redE rs w).leads) = List.map (fun (i : Nat) => D.int i) (redE rs w).leads from strips_map (fun _ => rfl) _]
    walk_at "mp nx"
    exact ⟨K.rows_no _, noOwns_map (fun _ => rfl) _, q⟩
theorem V_lawsolution (hdv : Γ "_law_divisor" = some d__law_divisor) (hq : Γ "_law_q" = some d__law_q) (hmu : Γ "_law_mul" = some d__law_mul) (hsu : Γ "_law_sub" = some d__law_sub) (hov : Γ "_law_over" = some r__law_over) (hwi : Γ "_law_without" = some d__law_without) (hre : Γ "_law_reduced" = some d__law_reduced) (h2 : Γ "_law_solution" = some d__law_solution) {rows : List (List Rat)} {cs : List Rat} {w m : Nat} (h0 : 0 < rows.length) (hl : rows.length ≤ 900) (hw : w ≤ 900) (hc : cs.length = rows.length) (hr : ∀ r ∈ rows, r.length = w) (hS : Sized (augE rows cs) (w + 1) m) (hb : m < 1082)
    (q : Q (solD pr (solE rows cs w)) s) : V (callF Γ (k + 6) "_law_solution" [.lst false (rows.map fun r => .lst false (r.map pr)), .lst false (cs.map pr)]) s Q := by
  refine V_call h2 rfl ?_
  simp only [d__law_solution]
  have hlim : (LIM : Int) = 1000000 := rfl
  have hlim2 : LIM = 1000000 := rfl
  have K := encR_pr
  have no := K.rows_no rows
  obtain ⟨r0, hr0⟩ : ∃ r0, rows[0]? = some r0 := ⟨_, List.getElem?_eq_getElem h0⟩
  have ge : (rows.map fun r => D.lst false (r.map pr))[0]? = some (.lst false (r0.map pr)) := by rw [List.getElem?_map, hr0]; rfl
  have wl : r0.length = w := hr r0 (List.mem_of_getElem? hr0)
  walk_at "mp mn"
  rw [show ixD (.lst false (rows.map fun r => D.lst false (r.map pr))) (.int 0) = pure (.lst false (r0.map pr)) from ix_lst (j := 0) ge]
  walk_at "mp nx"
  simp only [List.length_map, wl, Int.toNat_natCast]
  refine ⟨noOwns_prs' r0, no, by omega, ⟨by rw [range_len]; omega, range_noOwn⟩, ?_⟩
  rw [range_nat]
  refine V_mapE (h := fun i : Nat => mixF pr (true, rows.getD i [] ++ [ent cs i])) _ (fun i hi R hR => ?_) ?_
  · have hi := List.mem_range.mp hi
    have gi : (rows.map fun r => D.lst false (r.map pr))[i]? = some (.lst false ((rows.getD i []).map pr)) := by
      rw [List.getElem?_map, List.getElem?_eq_getElem hi, List.getD_eq_getElem?_getD, List.getElem?_eq_getElem hi]; rfl
    have l1 := hr _ (getD_mem (d := []) hi)
    rw [Elm_eq]
    walk_at "mp mn"
    rw [ix_lst gi]
    walk_at "mp mn"
    rw [ix_lst (row_at (e := pr) cs (by omega))]
    walk_at "mp mn"
    refine ⟨noOwns_prs' _, by rw [List.length_map]; omega, ?_⟩
    rw [show (rows.getD i []).map pr ++ [pr (ent cs i)] = (rows.getD i [] ++ [ent cs i]).map pr by rw [List.map_append]; rfl]
    exact hR
  have e0 : (List.range rows.length).map (fun i : Nat => mixF pr (true, rows.getD i [] ++ [ent cs i])) = ((List.range rows.length).map fun i => (true, rows.getD i [] ++ [ent cs i])).map (mixF pr) := by rw [List.map_map]; rfl
  have e1 : ((List.range rows.length).map fun i => (true, rows.getD i [] ++ [ent cs i])).map (·.2) = augE rows cs := by
    rw [List.map_map]
    exact aug_range rows cs hc
  rw [e0, K.strips_mix, e1, K.rows_strips]
  have la : (augE rows cs).length = rows.length := by unfold augE; rw [List.length_zipWith]; omega
  have lw : ∀ r ∈ augE rows cs, r.length = w + 1 := fun r hr' => by
    unfold augE at hr'
    rw [← List.map_uncurry_zip_eq_zipWith] at hr'
    obtain ⟨p, hp, rfl⟩ := List.mem_map.mp hr'
    have := hr _ (List.of_mem_zip hp).1
    show (p.1 ++ [p.2]).length = _
    rw [List.length_append, List.length_singleton]
    omega
  rw [show ((w : Int) + 1) = ((w + 1 : Nat) : Int) by omega]
  refine V_lawreduced (w := w + 1) (m := m) hdv hq hmu hsu hov hwi hre (by omega) (by omega) lw hS hb ?_
  walk_at "mp mn"
  refine ⟨Or.inr (K.rows_no _), ?_⟩
  walk_at "mp nx"
  simp only [Int.toNat_natCast]
  refine ⟨by omega, ⟨by rw [range_len]; omega, range_noOwn⟩, ?_⟩
  rw [range_nat]
  refine V_mapE (h := fun i : Nat => .int i) _ (fun i hi R hR => ?_) ?_
  · rw [Elm_eq]
    walk_at "mp mn"
    exact hR
  rw [cmpNe_dec nat_dec (fun _ => rfl)]
  walk_at "mp mn"
  unfold solE at q
  by_cases hc2 : (redE (augE rows cs) (w + 1)).leads = List.range w
  · rw [if_neg (by simpa using hc2)]
    rw [if_pos hc2] at q
    walk_at "mp nx"
    obtain ⟨dl1, dl2⟩ := redE_done (augE rows cs) (w + 1)
    refine ⟨K.rows_no _, ⟨by rw [List.length_map]; omega, K.rows_no _⟩, ?_⟩
    refine V_mapE (h := fun r : List Rat => pr (ent r w)) _ (fun r hr' R hR => ?_) ?_
    · have l1 := (red_len lw (w + 1)).2 r hr'
      rw [Elm_eq]
      walk_at "mp mn"
      rw [ix_lst (row_at (e := pr) r (by omega))]
      walk_at "mp mn"
      exact hR
    rw [show solD pr (some ((redE (augE rows cs) (w + 1)).done.map fun r => ent r w)) = .lst true ((redE (augE rows cs) (w + 1)).done.map fun r => pr (ent r w)) by show D.lst true (List.map pr _) = _; rw [List.map_map]; rfl] at q
    exact q
  · rw [if_pos (by simpa using hc2)]
    rw [if_neg hc2] at q
    exact q
end
end Mp

namespace Mp
open PySem (Str CmpOp)
/-! ### regions -/
def d_is_inside : MDef := ⟨2, 3, (.cons (.ret (.not (.bi .any (.cons (.lc (.nm 2) (.seq (.var 0)) .nop (.call "is_negative" (.cons (.call "form_value" (.cons (.var 2) (.cons (.var 1) .nil))) .nil))) .nil)))) .nil)⟩
def d__law_inside : MDef := ⟨2, 3, (.cons (.ret (.bi .all (.cons (.lc (.nm 2) (.seq (.var 0)) .nop (.cmp .GtE (.ix (.call "_law_value" (.cons (.var 2) (.cons (.var 1) .nil))) (.int 0)) (.int 0))) .nil))) .nil)⟩
def d__law_unit : MDef := ⟨3, 4, (.cons (.ret (.bi .tuple (.cons (.lc (.nm 3) (.rng (.var 0)) .nop (.tup (.cons (.bin .mul (.var 2) (.bi .int (.cons (.cmp .Eq (.var 3) (.var 1)) .nil))) (.cons (.int 1) .nil)))) .nil))) .nil)⟩
def d__law_region : MDef := ⟨2, 7, (.cons (.asg (.nm 2) (.lst .nil)) (.cons (.loop (.nm 3) (.rng (.var 1)) (.cons (.asg (.nm 4) (.call "_law_number" (.cons (.var 0) .nil))) (.cons (.asg (.nm 5) (.call "_law_add" (.cons (.var 4) (.cons (.tup (.cons (.bin .sub (.call "_law_draw" (.cons (.var 0) (.cons (.int 6) .nil))) (.bi .int (.cons (.cmp .Eq (.call "_law_draw" (.cons (.var 0) (.cons (.int 12) .nil))) (.int 0)) .nil))) (.cons (.bin .add (.int 1) (.call "_law_draw" (.cons (.var 0) (.cons (.int 2) .nil)))) .nil))) .nil)))) (.cons (.app 2 (.tup (.cons (.call "_law_unit" (.cons (.var 1) (.cons (.var 3) (.cons (.int 1) .nil)))) (.cons (.tup (.cons (.neg (.ix (.var 4) (.int 0))) (.cons (.ix (.var 4) (.int 1)) .nil))) .nil)))) (.cons (.app 2 (.tup (.cons (.call "_law_unit" (.cons (.var 1) (.cons (.var 3) (.cons (.neg (.int 1)) .nil)))) (.cons (.var 5) .nil)))) .nil)))) [3, 4, 5]) (.cons (.loop (.nm 3) (.rng (.call "_law_draw" (.cons (.var 0) (.cons (.int 3) .nil)))) (.cons (.app 2 (.tup (.cons (.bi .tuple (.cons (.lc (.nm 6) (.rng (.var 1)) .nop (.tup (.cons (.bin .sub (.call "_law_draw" (.cons (.var 0) (.cons (.int 5) .nil))) (.int 2)) (.cons (.int 1) .nil)))) .nil)) (.cons (.call "_law_number" (.cons (.var 0) .nil)) .nil)))) .nil) [3, 6]) (.cons (.ite (.cmp .Eq (.call "_law_draw" (.cons (.var 0) (.cons (.int 3) .nil))) (.int 0)) (.cons (.frz 2) (.cons (.asg (.nm 2) (.rev (.var 2))) .nil)) .nil) (.cons (.retv 2) .nil)))))⟩
def d__law_region_as : MDef := ⟨1, 2, (.cons (.ret (.bi .tuple (.cons (.lc (.nm 1) (.seq (.var 0)) .nop (.call "_law_form_as" (.cons (.var 1) .nil))) .nil))) .nil)⟩
def d__law_point : MDef := ⟨1, 2, (.cons (.ite (.not (.isi (.var 0) .list)) (.cons (.ret .non) .nil) .nil) (.cons (.ret (.lc (.nm 1) (.seq (.var 0)) .nop (.call "_law_pair" (.cons (.var 1) .nil)))) .nil))⟩
/-- the value of a form at a point -/
def fval (f : List Rat × Rat) (p : List Rat) : Rat := dotR f.1 p 0 + f.2
theorem dotR_shift : ∀ (as bs : List Rat) (z c : Rat), dotR as bs (z + c) = dotR as bs z + c
  | [], _, _, _ => rfl
  | _ :: _, [], _, _ => rfl
  | a :: as, b :: bs, z, c => by
    show dotR as bs (z + c + a * b) = dotR as bs (z + a * b) + c
    rw [← dotR_shift as bs (z + a * b) c]
    congr 1
    grind
theorem fval_eq (f : List Rat × Rat) (p : List Rat) : dotR f.1 p f.2 = fval f p := by
  unfold fval
  rw [← dotR_shift, Rat.zero_add]
def insB (fs : List (List Rat × Rat)) (p : List Rat) : Bool := fs.all fun f => decide (0 ≤ fval f p)
def encRm (fs : List (List Rat × Rat)) : D := .tup (fs.map fun f => encFm f.1 f.2)
theorem noOwns_fms (fs : List (List Rat × Rat)) : D.noOwns (fs.map fun f => encFm f.1 f.2) = true := noOwns_map (fun f => by show (D.noOwns (f.1.map .rat) && _) = true; rw [noOwns_rats']; rfl) _
theorem noOwns_fls (fs : List (List Rat × Rat)) : D.noOwns (fs.map fun f => encFl f.1 f.2) = true := noOwns_map (fun f => by show (D.noOwns (f.1.map pr) && _) = true; rw [noOwns_prs']; rfl) _
theorem strips_fms (fs : List (List Rat × Rat)) : D.strips (fs.map fun f => encFm f.1 f.2) = fs.map fun f => encFm f.1 f.2 := strips_map (fun f => by show D.tup [.tup (D.strips (f.1.map .rat)), .rat f.2] = _; rw [strips_rats']; rfl) _
theorem strips_fls (fs : List (List Rat × Rat)) : D.strips (fs.map fun f => encFl f.1 f.2) = fs.map fun f => encFl f.1 f.2 := strips_map (fun f => by show D.tup [.tup (D.strips (f.1.map pr)), pr f.2] = _; rw [strips_prs']; rfl) _
theorem bools_map {α : Type} (f : α → Bool) : ∀ xs : List α, bools (xs.map fun x => D.bl (f x)) = some (xs.map f)
  | [] => rfl
  | x :: xs => by
    show (bools (xs.map fun x => D.bl (f x))).map (f x :: ·) = _
    rw [bools_map f xs]
    rfl
theorem biD_any {ds : List D} {bs : List Bool} (h : bools ds = some bs) {o : Bool} : biD .any [.lst o ds] = pure (.bl (bs.any id)) := by
  show (do let bs ← ofO (bools ds); pure (D.bl (bs.any id))) = _
  rw [h]
  rfl
theorem biD_all {ds : List D} {bs : List Bool} (h : bools ds = some bs) {o : Bool} : biD .all [.lst o ds] = pure (.bl (bs.all id)) := by
  show (do let bs ← ofO (bools ds); pure (D.bl (bs.all id))) = _
  rw [h]
  rfl
theorem noShr_rm (fs : List (List Rat × Rat)) : (encRm fs).noShr = true := noShrs_map (fun f => by show (D.noShrs (f.1.map .rat) && _) = true; rw [noShrs_rats']; rfl) fs
theorem noOwn_rm (fs : List (List Rat × Rat)) : (encRm fs).noOwn = true := noOwns_fms fs
theorem strip_rm (fs : List (List Rat × Rat)) : (encRm fs).strip = encRm fs := congrArg D.tup (strips_fms fs)
theorem V_gather {α : Type} {e : α → D} {P : α → Prop} {f : D → M (Option D)} (hf : ∀ x s (R : Option D → Strm → Prop), Sok s → (∀ a s', Sok s' → P a → R (some (e a)) s') → V (f x) s R) : ∀ (xs : List D) (s : Strm) (R : List D → Strm → Prop), Sok s → (∀ (as : List α) s', Sok s' → as.length = xs.length → (∀ a ∈ as, P a) → R (as.map e) s') → V (lcD f xs) s R
  | [], s, R, hs, h => by
    rw [lcD]
    exact V_pure.mpr (h [] s hs rfl (by simp))
  | x :: xs, s, R, hs, h => by
    rw [lcD]
    refine V_bind.mpr (hf x s _ hs fun a s1 k1 za => V_bind.mpr (V_gather hf xs s1 _ k1 fun as s2 k2 hl hz => V_pure.mpr ?_))
    exact h (a :: as) s2 k2 (congrArg Nat.succ hl) (fun y hy => by
      rcases List.mem_cons.mp hy with rfl | hy
      · exact za
      · exact hz y hy)
/-- a form with small numbers -/
structure FmOk (n m : Nat) (f : List Rat × Rat) : Prop where
  len : f.1.length = n
  ln : ∀ x ∈ f.1, Zb m m x
  c : Zb m m f.2
section
variable {Γ : String → Option MDef} {k : Nat} {s : Strm} {Q : D → Strm → Prop}
theorem V_rneg (h2 : Γ "is_negative" = some d_is_negative) {a : Rat} (q : Q (.bl (decide (a < 0))) s) : V (callF Γ (k + 1) "is_negative" [.rat a]) s Q := by
  refine V_call h2 rfl ?_
  simp only [d_is_negative]
  walk_at "mp nx"
  rw [decide_eq_decide.mpr num_neg']
  exact q
theorem V_is_inside (ht : Γ "total" = some d_total) (hpr : Γ "products" = some d_products) (hf : Γ "form_value" = some d_form_value) (hng : Γ "is_negative" = some d_is_negative) (h2 : Γ "is_inside" = some d_is_inside) {fs : List (List Rat × Rat)} {p : List Rat} {m n l : Nat} (hl : fs.length ≤ 1000) (ha : ∀ f ∈ fs, FmOk l m f) (hb : ∀ x ∈ p, Zb n n x) (hk : (m + n + 1) * (l + 1) < 4400) (q : Q (.bl (insB fs p)) s) :
    V (callF Γ (k + 4) "is_inside" [encRm fs, .lst false (p.map .rat)]) s Q := by
  refine V_call h2 rfl ?_
  simp only [d_is_inside, encRm]
  have hlim2 : LIM = 1000000 := rfl
  walk_at "mp nx"
  refine ⟨noOwns_fms fs, ⟨by rw [List.length_map]; omega, noOwns_fms fs⟩, ?_⟩
  refine V_mapE (h := fun f : List Rat × Rat => .bl (decide (fval f p < 0))) _ (fun f hf' R hR => ?_) ?_
  · obtain ⟨a1, a2, a3⟩ := ha f hf'
    have h3 : (m + n + 1) * f.1.length ≤ (m + n + 1) * (l + 1) := Nat.mul_le_mul_left _ (by omega)
    have z0 := dot_zb a2 hb (z := 0) (i := 0) (Zb.zero.mono (by omega) (by omega))
    rw [Nat.zero_add] at z0
    have h4 : m + n + 1 ≤ (m + n + 1) * (l + 1) := Nat.le_mul_of_pos_right _ (by omega)
    rw [Elm_eq]
    simp only [encFm]
    walk_at "mp mn"
    rw [strips_rats', strips_rats']
    refine V_form_value ht hpr hf a2 a3 hb (Zk.sm z0 (by omega)) (by rw [a1]; omega) ?_
    walk_at "mp mn"
    refine V_rneg hng ?_
    walk_at "mp mn"
    exact hR
  rw [biD_any (bools_map _ _)]
  walk_at "mp mn"
  have e : (!(fs.map fun f => decide (fval f p < 0)).any id) = insB fs p := by
    unfold insB
    rw [List.any_map, List.not_any_eq_all_not]
    congr 1
    funext f
    show (!decide (fval f p < 0)) = _
    by_cases c : fval f p < 0
    · rw [decide_eq_true c, decide_eq_false (by exact Rat.not_le.mpr c)]; rfl
    · rw [decide_eq_false c, decide_eq_true (by exact Rat.not_lt.mp c)]; rfl
  rw [e]
  exact q
theorem V_lawinside (hdv : Γ "_law_divisor" = some d__law_divisor) (hq : Γ "_law_q" = some d__law_q) (had : Γ "_law_add" = some d__law_add) (hmu : Γ "_law_mul" = some d__law_mul) (hv : Γ "_law_value" = some r__law_value) (h2 : Γ "_law_inside" = some d__law_inside) {fs : List (List Rat × Rat)} {p : List Rat} {m n : Nat} (hl : fs.length ≤ 1000) (ha : ∀ f ∈ fs, FmOk p.length m f) (hb : ∀ x ∈ p, Zb n n x) (hk : (m + n + 1) * (p.length + 2) < 2300) (q : Q (.bl (insB fs p)) s) :
    V (callF Γ (k + 5) "_law_inside" [.lst false (fs.map fun f => encFl f.1 f.2), .lst false (p.map pr)]) s Q := by
  refine V_call h2 rfl ?_
  simp only [d__law_inside]
  have hlim2 : LIM = 1000000 := rfl
  walk_at "mp nx"
  refine ⟨noOwns_fls fs, ⟨by rw [List.length_map]; omega, noOwns_fls fs⟩, ?_⟩
  refine V_mapE (h := fun f : List Rat × Rat => .bl (decide (0 ≤ fval f p))) _ (fun f hf' R hR => ?_) ?_
  · obtain ⟨a1, a2, a3⟩ := ha f hf'
    rw [Elm_eq]
    walk_at "mp mn"
    rw [fl_strip, strips_prs']
    refine V_rvalue hdv hq had hmu hv false a1 a2 a3 hb hk ?_
    rw [fval_eq]
    simp only [pr]
    walk_at "mp mn"
    rw [decide_eq_decide.mpr Rat.num_nonneg]
    exact hR
  rw [biD_all (bools_map _ _)]
  walk_at "mp mn"
  have e : ((fs.map fun f => decide (0 ≤ fval f p)).all id) = insB fs p := by
    unfold insB
    rw [List.all_map]
    rfl
  rw [e]
  exact q
/-! ### regions, as drawn -/
def unitR (n k : Nat) (sg : Int) : List Rat := (List.range n).map fun j => ((sg * (if j = k then 1 else 0) : Int) : Rat)
theorem V_lawunit (h2 : Γ "_law_unit" = some d__law_unit) {n i : Nat} {sg : Int} (hn : n ≤ 1000) (hs : sg.natAbs ≤ 1) (q : Q (.tup ((unitR n i sg).map pr)) s) : V (callF Γ (k + 1) "_law_unit" [.int (n : Nat), .int (i : Nat), .int sg]) s Q := by
  refine V_call h2 rfl ?_
  simp only [d__law_unit]
  have hlim : (LIM : Int) = 1000000 := rfl
  have hlim2 : LIM = 1000000 := rfl
  walk_at "mp nx"
  simp only [Int.toNat_natCast]
  refine ⟨by omega, ⟨by rw [range_len]; omega, range_noOwn⟩, ?_⟩
  rw [range_nat]
  refine V_mapE (h := fun j : Nat => pr ((sg * (if j = i then 1 else 0) : Int) : Rat)) _ (fun j hj R hR => ?_) ?_
  · rw [Elm_eq]
    walk_at "mp mn"
    have big : (1 : Nat) < 2 ^ BIT := Nat.one_lt_two_pow (by decide)
    have e : ((j : Int) == (i : Int)) = decide (j = i) := by
      by_cases c : j = i
      · rw [c, decide_eq_true rfl]; exact beq_self_eq_true _
      · rw [decide_eq_false c]; exact beq_eq_false_iff_ne.mpr (by omega)
    rw [e]
    by_cases c : j = i
    · rw [if_pos c] at hR
      rw [decide_eq_true c]
      exact ⟨sm_mul (by omega) big, hR⟩
    · rw [if_neg c] at hR
      rw [decide_eq_false c]
      exact ⟨sm_mul (by omega) (by show (0 : Nat) < _; omega), hR⟩
  · walk_at "mp mn"
    rw [show (List.range n).map (fun j : Nat => pr ((sg * (if j = i then 1 else 0) : Int) : Rat)) = (unitR n i sg).map pr by unfold unitR; rw [List.map_map]; rfl]
    exact q
theorem V_raddI (hdv : Γ "_law_divisor" = some d__law_divisor) (hq : Γ "_law_q" = some d__law_q) (h2 : Γ "_law_add" = some d__law_add) {a : Rat} {x y : Int} {m : Nat} (ha : Zb m m a) (hx : x.natAbs < 2 ^ 20) (hy : y.natAbs < 2 ^ 20) (hy0 : y ≠ 0) (c : m < 2000) (q : Q (pr (a + Rat.divInt x y)) s) : V (callF Γ (k + 3) "_law_add" [pr a, .tup [.int x, .int y]]) s Q := by
  refine V_call h2 rfl ?_
  simp only [d__law_add, pr]
  walk_at "mp ms"
  have sa := Zk.sm ha (by omega)
  have hd : ((a.den : Int) * y).natAbs < 2 ^ 3250 := by
    rw [Int.natAbs_mul, Int.natAbs_natCast]
    refine Nat.lt_of_le_of_lt (Nat.mul_le_mul ha.den (Nat.le_of_lt hy)) ?_
    rw [← Nat.pow_add]
    exact Nat.pow_lt_pow_right (by decide) (by omega)
  have big : (2 : Nat) ^ 20 < 2 ^ BIT := Nat.pow_lt_pow_right (by decide) (by decide)
  have nd : (a.den : Int) ≠ 0 := by have := a.den_nz; omega
  refine ⟨sm_mul sa.num (Nat.lt_trans hy big), sm_mul (Nat.lt_trans hx big) (by simpa using sa.den), sm_mul (by simpa using sa.den) (Nat.lt_trans hy big), V_q hdv hq (Int.mul_ne_zero nd hy0) hd ?_⟩
  have e : Rat.divInt (a.num * y + x * (a.den : Int)) ((a.den : Int) * y) = a + Rat.divInt x y := by
    rw [← Rat.divInt_add_divInt _ _ nd hy0, Rat.num_divInt_den]
  rw [e]
  exact q
theorem V_region_as (has : Γ "_law_as" = some d__law_as) (hfa : Γ "_law_form_as" = some d__law_form_as) (h2 : Γ "_law_region_as" = some d__law_region_as) {fs : List (List Rat × Rat)} {n m : Nat} (hl : fs.length ≤ 1000) (hn : n ≤ 1000) (hm : m < 4400) (ha : ∀ f ∈ fs, FmOk n m f) (q : Q (encRm fs) s) : V (callF Γ (k + 3) "_law_region_as" [.lst false (fs.map fun f => encFl f.1 f.2)]) s Q := by
  refine V_call h2 rfl ?_
  simp only [d__law_region_as]
  have hlim2 : LIM = 1000000 := rfl
  walk_at "mp nx"
  refine ⟨noOwns_fls fs, ⟨by rw [List.length_map]; omega, noOwns_fls fs⟩, ?_⟩
  refine V_mapE (h := fun f : List Rat × Rat => encFm f.1 f.2) _ (fun f hf R hR => ?_) ?_
  · obtain ⟨a1, a2, a3⟩ := ha f hf
    rw [Elm_eq]
    walk_at "mp mn"
    rw [fl_strip]
    refine V_form_as has hfa (fun x hx => Zk.sm (a2 x hx) (by omega)) (Zk.sm a3 (by omega)) (by omega) ?_
    walk_at "mp mn"
    exact ⟨Or.inr (fl_noOwn _ _), hR⟩
  · walk_at "mp mn"
    exact q
theorem V_lawpoint (hpa : Γ "_law_pair" = some r__law_pair) (h2 : Γ "_law_point" = some d__law_point) {xs : List Rat} (hl : xs.length ≤ 1000) (q : Q (.lst true (xs.map pr)) s) : V (callF Γ (k + 2) "_law_point" [.lst false (xs.map .rat)]) s Q := by
  refine V_call h2 rfl ?_
  simp only [d__law_point]
  have hlim2 : LIM = 1000000 := rfl
  walk_at "mp nx"
  refine ⟨noOwns_rats' xs, ⟨by rw [List.length_map]; omega, noOwns_rats' xs⟩, ?_⟩
  refine V_pairs (k := k) hpa (fun u R h => ?_) q
  rw [Elm_eq]
  walk_at "mp mn"
  refine V_mono h fun a b h => ?_
  walk_at "mp mn"
  exact h
end
end Mp

namespace Mp
open PySem (Str CmpOp)
/-! ### choices of forms -/
def d_choices : MDef := ⟨2, 8, (.cons (.asg (.nm 2) (.lst (.cons (.tup .nil) .nil))) (.cons (.loop (.nm 3) (.rng (.var 1)) (.cons (.asg (.nm 4) (.lst .nil)) (.cons (.frz 2) (.cons (.loop (.nm 5) (.seq (.var 2)) (.cons (.asg (.nm 6) (.ifx (.var 5) (.bin .add (.ix (.var 5) (.neg (.int 1))) (.int 1)) (.int 0))) (.cons (.ext 4 (.lc (.nm 7) (.rng2 (.var 6) (.var 0)) .nop (.bin .add (.var 5) (.tup (.cons (.var 7) .nil))))) .nil)) [5, 6]) (.cons (.mv 2 4) .nil)))) [3, 4, 5, 6]) (.cons (.retv 2) .nil)))⟩
def d__law_picks : MDef := ⟨2, 7, (.cons (.asg (.nm 2) (.lst (.cons (.tup .nil) .nil))) (.cons (.loop (.nm 3) (.rng (.var 1)) (.cons (.asg (.nm 4) (.lst .nil)) (.cons (.frz 2) (.cons (.loop (.nm 5) (.seq (.var 2)) (.cons (.asg (.nm 4) (.bin .add (.var 4) (.lc (.nm 6) (.rng2 (.bin .add (.ix (.bin .add (.lst (.cons (.neg (.int 1)) .nil)) (.bi .list (.cons (.var 5) .nil))) (.neg (.int 1))) (.int 1)) (.var 0)) .nop (.bin .add (.var 5) (.tup (.cons (.var 6) .nil)))))) .nil) [5]) (.cons (.mv 2 4) .nil)))) [3, 4, 5]) (.cons (.retv 2) .nil)))⟩
def fstC (row : List Nat) : Nat := match row.getLast? with
  | some x => x + 1
  | none => 0
def nextC (many : Nat) (row : List Nat) : List (List Nat) := (List.range (many - fstC row)).map fun i => row ++ [fstC row + i]
def chs (many : Nat) : Nat → List (List Nat)
  | 0 => [[]]
  | s + 1 => (chs many s).flatMap (nextC many)
def encN (row : List Nat) : D := .tup (row.map fun (i : Nat) => D.int i)
theorem encN_noOwns (xs : List (List Nat)) : D.noOwns (xs.map encN) = true := noOwns_map (f := encN) (fun r => noOwns_map (f := fun (i : Nat) => D.int i) (fun _ => rfl) r) xs
theorem encN_strips (xs : List (List Nat)) : D.strips (xs.map encN) = xs.map encN := strips_map (f := encN) (g := encN) (fun r => congrArg D.tup (strips_map (f := fun (i : Nat) => D.int i) (g := fun (i : Nat) => D.int i) (fun _ => rfl) r)) xs
theorem take_flat_le {α β : Type} (f : α → List β) (xs : List α) (p : Nat) : ((xs.take p).flatMap f).length ≤ (xs.flatMap f).length := by
  have e : xs.flatMap f = (xs.take p).flatMap f ++ (xs.drop p).flatMap f := by rw [← List.flatMap_append, List.take_append_drop]
  rw [e, List.length_append]
  omega
theorem take_flat_succ {α β : Type} (f : α → List β) {xs : List α} {p : Nat} {x : α} (h : xs[p]? = some x) : (xs.take (p + 1)).flatMap f = (xs.take p).flatMap f ++ f x := by
  rw [List.take_succ, h, List.flatMap_append]
  simp
theorem fstC_snoc (xs : List Nat) (x : Nat) : fstC (xs ++ [x]) = x + 1 := by
  unfold fstC
  rw [List.getLast?_append]
  rfl
theorem chs_fst (many : Nat) : ∀ i, ∀ row ∈ chs many i, fstC row ≤ many
  | 0, row, h => by
    rw [List.mem_singleton.mp h]
    exact Nat.zero_le _
  | i + 1, row, h => by
    obtain ⟨r, hr, h⟩ := List.mem_flatMap.mp h
    obtain ⟨j, hj, rfl⟩ := List.mem_map.mp h
    have := List.mem_range.mp hj
    rw [fstC_snoc]
    omega
theorem chs_len (many : Nat) : ∀ i, ∀ row ∈ chs many i, row.length = i
  | 0, row, h => by
    rw [List.mem_singleton.mp h]
    rfl
  | i + 1, row, h => by
    obtain ⟨r, hr, h⟩ := List.mem_flatMap.mp h
    obtain ⟨j, hj, rfl⟩ := List.mem_map.mp h
    rw [List.length_append, chs_len many i r hr]
    rfl
theorem snoc_cases {α : Type} (xs : List α) : xs = [] ∨ ∃ ys y, xs = ys ++ [y] := by
  cases h : xs.reverse with
  | nil => exact .inl (List.reverse_eq_nil_iff.mp h)
  | cons y ys => exact .inr ⟨ys.reverse, y, by rw [← List.reverse_reverse xs, h, List.reverse_cons]⟩
theorem ix_lastT {xs : List Nat} {x : Nat} : ixD (.tup ((xs ++ [x]).map fun (i : Nat) => D.int i)) (.int (-1)) = pure (.int (x : Nat)) := by
  have := @ix_last false (xs.map fun (i : Nat) => D.int i) (.int (x : Nat))
  rw [List.map_append]
  exact this
theorem ix_lastP (row : List Nat) : ixD (.lst true (D.int (-1) :: row.map fun (i : Nat) => D.int i)) (.int (-1)) = pure (.int ((fstC row : Int) - 1)) := by
  rcases snoc_cases row with rfl | ⟨ys, y, rfl⟩
  · exact @ix_last true [] (.int (-1))
  · have := @ix_last true (D.int (-1) :: ys.map fun (i : Nat) => D.int i) (.int (y : Nat))
    rw [List.map_append, fstC_snoc, show (((y + 1 : Nat) : Int) - 1) = (y : Int) by omega]
    exact this
section
variable {Γ : String → Option MDef} {k : Nat} {s : Strm} {Q : D → Strm → Prop}
theorem V_choices (h2 : Γ "choices" = some d_choices) {many size : Nat} (hm : many ≤ 20) (hs : size ≤ 6) (hl : ∀ i ≤ size, (chs many i).length ≤ 1000) (q : Q (.lst true ((chs many size).map encN)) s) : V (callF Γ (k + 1) "choices" [.int (many : Nat), .int (size : Nat)]) s Q := by
  refine V_call h2 rfl ?_
  simp only [d_choices]
  have hlim : (LIM : Int) = 1000000 := rfl
  have hlim2 : LIM = 1000000 := rfl
  walk_at "mp nx"
  walk_at "mp nx"
  generalize hB : Bdy (callF Γ k) _ = B
  generalize hN : Nxt (callF Γ k) _ _ = N
  refine ⟨by omega, range_noOwn, ?_⟩
  refine V_for (fun i e t => t = s ∧ i ≤ size ∧ e = [some (.int (many : Nat)), some (.int (size : Nat)), some (.lst true ((chs many i).map encN)), none, none, none, none, none]) _ 0 ⟨rfl, Nat.zero_le _, rfl⟩ ?_ ?_
  · rintro i x e t hx ⟨rfl, hi, rfl⟩
    obtain ⟨hj, rfl⟩ := range_get hx
    simp only [Int.toNat_natCast, Nat.zero_add, Int.zero_add] at hj hi ⊢
    walk_at "mp mn"
    rw [← congrFun hB, Bdy_eq]
    walk_at "mp nx"
    rw [encN_strips]
    walk_at "mp nx"
    have hb1 := hl (i + 1) (by omega)
    have hb0 := hl i (by omega)
    refine ⟨encN_noOwns _, encN_noOwns _, ?_⟩
    generalize hB2 : Bdy (callF Γ k) _ = B2
    generalize hN2 : Nxt (callF Γ k) _ _ = N2'
    refine V_for (fun p e t' => t' = t ∧ p ≤ (chs many i).length ∧ e = [some (.int (many : Nat)), some (.int (size : Nat)), some (.lst false ((chs many i).map encN)), some (.int (i : Nat)), some (.lst true ((((chs many i).take p).flatMap (nextC many)).map encN)), none, none, none]) _ 0 ⟨rfl, Nat.zero_le _, rfl⟩ ?_ ?_
    · rintro p x e t' hx ⟨rfl, hp, rfl⟩
      rw [List.getElem?_map] at hx
      obtain ⟨row, hr, rfl⟩ := Option.map_eq_some_iff.mp hx
      have hpl := (List.getElem?_eq_some_iff.mp hr).1
      rw [Nat.zero_add] at hp ⊢
      have hrl := chs_len many i row (List.mem_of_getElem? hr)
      have hf := chs_fst many i row (List.mem_of_getElem? hr)
      have tl := take_flat_le (nextC many) (chs many i) (p + 1)
      rw [take_flat_succ _ hr] at tl ⊢
      rw [List.length_append] at tl
      have hch : (chs many (i + 1)).length = ((chs many i).flatMap (nextC many)).length := rfl
      walk_at "mp mn"
      rw [← congrFun hB2, Bdy_eq, V_cons]
      generalize hM : Nxt (callF Γ k) (MSs.cons _ _) _ = M
      have fin : M (.nx [some (.int (many : Nat)), some (.int (size : Nat)), some (.lst false ((chs many i).map encN)), some (.int (i : Nat)), some (.lst true ((((chs many i).take p).flatMap (nextC many)).map encN)), some (encN row), some (.int (fstC row : Nat)), none]) t' := by
        rw [← hM]
        walk_at "mp nx"
        rw [show rng2D (.int (fstC row : Nat)) (.int (many : Nat)) = (do guardM (-LIM ≤ ((fstC row : Nat) : Int) ∧ ((fstC row : Nat) : Int) ≤ LIM ∧ -LIM ≤ ((many : Nat) : Int) ∧ ((many : Nat) : Int) ≤ LIM); pure (rangeD (fstC row : Nat) (((many : Nat) : Int) - (fstC row : Nat)).toNat)) from rfl]
        walk_at "mp mn"
        have nn : (((many : Nat) : Int) - (fstC row : Nat)).toNat = many - fstC row := by omega
        rw [nn]
        refine ⟨by omega, ⟨by unfold rangeD; rw [List.length_map, List.length_range]; omega, range_noOwn⟩, ?_⟩
        unfold rangeD
        refine V_mapE (h := fun j : Nat => encN (row ++ [fstC row + j])) _ (fun j hj R hR => ?_) ?_
        · rw [Elm_eq]
          walk_at "mp mn"
          simp only [encN]
          walk_at "mp mn"
          refine ⟨noOwns_map (f := fun (i : Nat) => D.int i) (fun _ => rfl) row, by rw [List.length_map]; omega, ?_⟩
          rw [show row.map (fun (i : Nat) => D.int i) ++ [D.int ((fstC row : Int) + (j : Int))] = (row ++ [fstC row + j]).map fun (i : Nat) => D.int i by rw [List.map_append]; rfl]
          exact hR
        rw [show (List.range (many - fstC row)).map (fun j : Nat => encN (row ++ [fstC row + j])) = (nextC many row).map encN by unfold nextC; rw [List.map_map]; rfl]
        show V (do guardM (((((chs many i).take p).flatMap (nextC many)).map encN).length + ((nextC many row).map encN).length ≤ LIM); pure (D.lst true (((((chs many i).take p).flatMap (nextC many)).map encN) ++ ((nextC many row).map encN)))) t' _
        walk_at "mp mn"
        refine ⟨by rw [List.length_map, List.length_map]; omega, ?_⟩
        exact ⟨by omega, by rw [List.map_append]⟩
      walk_at "mp mn"
      simp only [encN]
      refine V_pure.mpr ?_
      rcases snoc_cases row with rfl | ⟨ys, y, rfl⟩
      · rw [if_neg (by decide)]
        exact fin
      · rw [if_pos (by simp), ix_lastT]
        walk_at "mp mn"
        rw [fstC_snoc] at fin
        exact fin
    · rintro e t' ⟨rfl, _, rfl⟩
      rw [List.length_map, Nat.zero_add, List.take_of_length_le (Nat.le_refl _), ← hN2]
      walk_at "mp nx"
      exact ⟨by omega, rfl⟩
  · rintro e t ⟨rfl, _, rfl⟩
    rw [range_len, Int.toNat_natCast, Nat.zero_add, ← hN]
    walk_at "mp nx"
    exact q
theorem V_picks (h2 : Γ "_law_picks" = some d__law_picks) {many size : Nat} (hm : many ≤ 20) (hs : size ≤ 6) (hl : ∀ i ≤ size, (chs many i).length ≤ 1000) (q : Q (.lst true ((chs many size).map encN)) s) : V (callF Γ (k + 1) "_law_picks" [.int (many : Nat), .int (size : Nat)]) s Q := by
  refine V_call h2 rfl ?_
  simp only [d__law_picks]
  have hlim : (LIM : Int) = 1000000 := rfl
  have hlim2 : LIM = 1000000 := rfl
  walk_at "mp nx"
  walk_at "mp nx"
  generalize hB : Bdy (callF Γ k) _ = B
  generalize hN : Nxt (callF Γ k) _ _ = N
  refine ⟨by omega, range_noOwn, ?_⟩
  refine V_for (fun i e t => t = s ∧ i ≤ size ∧ e = [some (.int (many : Nat)), some (.int (size : Nat)), some (.lst true ((chs many i).map encN)), none, none, none, none]) _ 0 ⟨rfl, Nat.zero_le _, rfl⟩ ?_ ?_
  · rintro i x e t hx ⟨rfl, hi, rfl⟩
    obtain ⟨hj, rfl⟩ := range_get hx
    simp only [Int.toNat_natCast, Nat.zero_add, Int.zero_add] at hj hi ⊢
    walk_at "mp mn"
    rw [← congrFun hB, Bdy_eq]
    walk_at "mp nx"
    rw [encN_strips]
    walk_at "mp nx"
    have hb1 := hl (i + 1) (by omega)
    have hb0 := hl i (by omega)
    refine ⟨encN_noOwns _, encN_noOwns _, ?_⟩
    generalize hB2 : Bdy (callF Γ k) _ = B2
    generalize hN2 : Nxt (callF Γ k) _ _ = N2'
    refine V_for (fun p e t' => t' = t ∧ p ≤ (chs many i).length ∧ e = [some (.int (many : Nat)), some (.int (size : Nat)), some (.lst false ((chs many i).map encN)), some (.int (i : Nat)), some (.lst true ((((chs many i).take p).flatMap (nextC many)).map encN)), none, none]) _ 0 ⟨rfl, Nat.zero_le _, rfl⟩ ?_ ?_
    · rintro p x e t' hx ⟨rfl, hp, rfl⟩
      rw [List.getElem?_map] at hx
      obtain ⟨row, hr, rfl⟩ := Option.map_eq_some_iff.mp hx
      have hpl := (List.getElem?_eq_some_iff.mp hr).1
      rw [Nat.zero_add] at hp ⊢
      have hrl := chs_len many i row (List.mem_of_getElem? hr)
      have hf := chs_fst many i row (List.mem_of_getElem? hr)
      have tl := take_flat_le (nextC many) (chs many i) (p + 1)
      rw [take_flat_succ _ hr] at tl ⊢
      rw [List.length_append] at tl
      have hch : (chs many (i + 1)).length = ((chs many i).flatMap (nextC many)).length := rfl
      walk_at "mp mn"
      rw [← congrFun hB2, Bdy_eq]
      simp only [encN]
      walk_at "mp nx"
      refine ⟨encN_noOwns _, noOwns_map (f := fun (i : Nat) => D.int i) (fun _ => rfl) row, by rw [List.length_map]; omega, ?_⟩
      rw [ix_lastP]
      walk_at "mp mn"
      rw [show ((fstC row : Int) - 1 + 1) = (fstC row : Int) by omega, show rng2D (.int (fstC row : Nat)) (.int (many : Nat)) = (do guardM (-LIM ≤ ((fstC row : Nat) : Int) ∧ ((fstC row : Nat) : Int) ≤ LIM ∧ -LIM ≤ ((many : Nat) : Int) ∧ ((many : Nat) : Int) ≤ LIM); pure (rangeD (fstC row : Nat) (((many : Nat) : Int) - (fstC row : Nat)).toNat)) from rfl]
      walk_at "mp mn"
      have nn : (((many : Nat) : Int) - (fstC row : Nat)).toNat = many - fstC row := by omega
      rw [nn]
      refine ⟨by omega, ⟨by unfold rangeD; rw [List.length_map, List.length_range]; omega, range_noOwn⟩, ?_⟩
      unfold rangeD
      refine V_mapE (h := fun j : Nat => encN (row ++ [fstC row + j])) _ (fun j hj R hR => ?_) ?_
      · rw [Elm_eq]
        walk_at "mp mn"
        refine ⟨noOwns_map (f := fun (i : Nat) => D.int i) (fun _ => rfl) row, by rw [List.length_map]; omega, ?_⟩
        rw [show row.map (fun (i : Nat) => D.int i) ++ [D.int ((fstC row : Int) + (j : Int))] = (row ++ [fstC row + j]).map fun (i : Nat) => D.int i by rw [List.map_append]; rfl]
        exact hR
      rw [show (List.range (many - fstC row)).map (fun j : Nat => encN (row ++ [fstC row + j])) = (nextC many row).map encN by unfold nextC; rw [List.map_map]; rfl]
      exact ⟨by rw [List.length_map, List.length_map]; omega, rfl, by omega, by rw [List.map_append]⟩
    · rintro e t' ⟨rfl, _, rfl⟩
      rw [List.length_map, Nat.zero_add, List.take_of_length_le (Nat.le_refl _), ← hN2]
      walk_at "mp nx"
      exact ⟨by omega, rfl⟩
  · rintro e t ⟨rfl, _, rfl⟩
    rw [range_len, Int.toNat_natCast, Nat.zero_add, ← hN]
    walk_at "mp nx"
    exact q
end
end Mp

namespace Mp
open PySem (Str CmpOp)
/-! ### sums of products over one denominator -/
theorem Lq.times {L B K C : Nat} {a b : Rat} (h : Lq L B a) (h' : Lq K C b) : Lq (L * K) (B * C) (a * b) := by
  obtain ⟨m, e, l⟩ := h
  obtain ⟨n, e', l'⟩ := h'
  refine ⟨m * n, ?_, ?_⟩
  · rw [Int.natCast_mul, Rat.intCast_mul, Rat.intCast_mul, ← e, ← e']
    grind
  · rw [Int.natAbs_mul]
    exact Nat.mul_le_mul l l'
theorem Lq.up {L B : Nat} {q : Rat} (D : Nat) (h : Lq L B q) : Lq (L * D) (B * D) q := by
  obtain ⟨m, e, l⟩ := h
  refine ⟨m * (D : Int), ?_, ?_⟩
  · rw [Int.natCast_mul, Rat.intCast_mul, Rat.intCast_mul, ← e]
    grind
  · rw [Int.natAbs_mul, Int.natAbs_natCast]
    exact Nat.mul_le_mul_right _ l
theorem getD_lq {p : List Rat} {L N j : Nat} (hp : ∀ x ∈ p, Lq L N x) : Lq L N (p.getD j 0) := by
  rw [List.getD_eq_getElem?_getD]
  cases h : p[j]? with
  | none => exact Lq.zero
  | some x => exact hp x (List.mem_of_getElem? h)
theorem Lq.zb {L B m : Nat} {q : Rat} (h : Lq L B q) (l0 : 0 < L) (l1 : L ≤ 2 ^ m) (b1 : B < 2 ^ m) : Zb m m q := by
  obtain ⟨h1, h2⟩ := h.parts l0
  exact ⟨Nat.lt_of_le_of_lt h1 b1, Nat.le_trans h2 l1⟩
/-- the sum behind t products -/
def QsB (K A L N Z t : Nat) (z : Rat) : Prop := Lq (K * L * L) (Z + t * (A * N * N)) z
theorem QsB.mono {K A L N Z t t' : Nat} {z : Rat} (h : QsB K A L N Z t z) (c : t ≤ t') : QsB K A L N Z t' z := Lq.mono h (Nat.add_le_add_left (Nat.mul_le_mul_right _ c) _)
theorem QsB.step {K A L N Z t : Nat} {z a u v : Rat} (ha : Lq K A a) (hu : Lq L N u) (hv : Lq L N v) (h : QsB K A L N Z t z) : QsB K A L N Z (t + 1) (z + a * u * v) := by
  have := Lq.add h ((ha.times hu).times hv)
  unfold QsB
  rw [Nat.add_mul, Nat.one_mul, ← Nat.add_assoc]
  exact this
theorem row_S {K A L N Z : Nat} {p : List Rat} {u : Rat} (hp : ∀ x ∈ p, Lq L N x) (hu : Lq L N u) : ∀ {as : List Rat} {j t : Nat} {z : Rat}, (∀ x ∈ as, Lq K A x) → QsB K A L N Z t z → QsB K A L N Z (t + as.length) (rowS p u as j z)
  | [], _, _, _, _, h => h
  | a :: as, j, t, z, ha, h => by
    have h2 := QsB.step (ha a List.mem_cons_self) hu (getD_lq (j := j) hp) h
    have := row_S hp hu (as := as) (j := j + 1) (fun x hx => ha x (List.mem_cons_of_mem _ hx)) h2
    rw [List.length_cons, show t + (as.length + 1) = t + 1 + as.length by omega]
    exact this
theorem sq_S {K A L N Z T : Nat} {p : List Rat} (hp : ∀ x ∈ p, Lq L N x) : ∀ {rows : List (List Rat)} {i t : Nat} {z : Rat}, (∀ r ∈ rows, r.length ≤ T ∧ ∀ x ∈ r, Lq K A x) → QsB K A L N Z t z → QsB K A L N Z (t + T * rows.length) (sqS p rows i z)
  | [], _, _, _, _, h => h.mono (by omega)
  | row :: rows, i, t, z, hr, h => by
    obtain ⟨r1, r2⟩ := hr row List.mem_cons_self
    have h1 := row_S hp (getD_lq (j := i) hp) (as := row) (j := 0) r2 h
    have h2 : QsB K A L N Z (t + T) (rowS p (p.getD i 0) row 0 z) := h1.mono (by omega)
    have := sq_S hp (rows := rows) (i := i + 1) (fun r h => hr r (List.mem_cons_of_mem _ h)) h2
    rw [List.length_cons, show t + T * (rows.length + 1) = t + T + T * rows.length by rw [Nat.mul_add]; omega]
    exact this
/-- the sizes fit -/
structure Msz (K A L N Z w T m n : Nat) : Prop where
  K0 : 0 < K
  L0 : 0 < L
  hK : K ≤ 2 ^ m
  hA : A < 2 ^ m
  hL : L ≤ 2 ^ n
  hN : N < 2 ^ n
  den : K * L * L ≤ 2 ^ w
  num : Z + T * (A * N * N) < 2 ^ 4480
  sum : w + (m + (n + n)) < 3250
theorem Msz.za {K A L N Z w T m n : Nat} (M : Msz K A L N Z w T m n) {x : Rat} (h : Lq K A x) : Zb m m x := h.zb M.K0 M.hK M.hA
theorem Msz.zp {K A L N Z w T m n : Nat} (M : Msz K A L N Z w T m n) {x : Rat} (h : Lq L N x) : Zb n n x := h.zb M.L0 M.hL M.hN
theorem Msz.ok {K A L N Z w T m n : Nat} (M : Msz K A L N Z w T m n) {t : Nat} {z : Rat} (ht : t ≤ T) (h : QsB K A L N Z t z) : Sm z ∧ z.den ≤ 2 ^ w := by
  have h' := h.mono ht
  have kp : 0 < K * L * L := Nat.mul_pos (Nat.mul_pos M.K0 M.L0) M.L0
  obtain ⟨h1, h2⟩ := Lq.parts kp h'
  have hw := M.sum
  refine ⟨Lq.sm kp h' (Nat.lt_of_le_of_lt M.den (Nat.pow_lt_pow_right (by decide) (by omega))) M.num, Nat.le_trans h2 M.den⟩
theorem lq_int {v : Int} (h : v.natAbs ≤ 9) : Lq 60 540 (v : Rat) := ⟨v * 60, by rw [Rat.intCast_mul]; rfl, by omega⟩
theorem lq_div {n u : Int} (h : n.natAbs ≤ 9) (u0 : 0 ≤ u) (u6 : u < 6) : Lq 60 540 (Rat.divInt n (1 + u)) := by
  have hu : u = 0 ∨ u = 1 ∨ u = 2 ∨ u = 3 ∨ u = 4 ∨ u = 5 := by omega
  rw [Rat.divInt_eq_div]
  rcases hu with rfl | rfl | rfl | rfl | rfl | rfl
  · exact ⟨n * 60, by rw [Rat.intCast_mul, show (((1 + 0 : Int)) : Rat) = 1 from rfl, show (((60 : Nat) : Int) : Rat) = 60 from rfl, show ((60 : Int) : Rat) = 60 from rfl]; grind, by omega⟩
  · exact ⟨n * 30, by rw [Rat.intCast_mul, show (((1 + 1 : Int)) : Rat) = 2 from rfl, show (((60 : Nat) : Int) : Rat) = 60 from rfl, show ((30 : Int) : Rat) = 30 from rfl]; grind, by omega⟩
  · exact ⟨n * 20, by rw [Rat.intCast_mul, show (((1 + 2 : Int)) : Rat) = 3 from rfl, show (((60 : Nat) : Int) : Rat) = 60 from rfl, show ((20 : Int) : Rat) = 20 from rfl]; grind, by omega⟩
  · exact ⟨n * 15, by rw [Rat.intCast_mul, show (((1 + 3 : Int)) : Rat) = 4 from rfl, show (((60 : Nat) : Int) : Rat) = 60 from rfl, show ((15 : Int) : Rat) = 15 from rfl]; grind, by omega⟩
  · exact ⟨n * 12, by rw [Rat.intCast_mul, show (((1 + 4 : Int)) : Rat) = 5 from rfl, show (((60 : Nat) : Int) : Rat) = 60 from rfl, show ((12 : Int) : Rat) = 12 from rfl]; grind, by omega⟩
  · exact ⟨n * 10, by rw [Rat.intCast_mul, show (((1 + 5 : Int)) : Rat) = 6 from rfl, show (((60 : Nat) : Int) : Rat) = 60 from rfl, show ((10 : Int) : Rat) = 10 from rfl]; grind, by omega⟩
structure FmL (n : Nat) (f : List Rat × Rat) : Prop where
  len : f.1.length = n
  ln : ∀ x ∈ f.1, Lq 60 1080 x
  c : Lq 60 1080 f.2
theorem FmL.ok {n : Nat} {f : List Rat × Rat} (h : FmL n f) : FmOk n 12 f := ⟨h.len, fun x hx => (h.ln x hx).zb (by decide) (by decide) (by decide), h.c.zb (by decide) (by decide) (by decide)⟩
section
variable {Γ : String → Option MDef} {k : Nat} {s : Strm} {Q : D → Strm → Prop}
theorem V_rnum60 (hd : Γ "_law_draw" = some d__law_draw) (hdv : Γ "_law_divisor" = some d__law_divisor) (hq : Γ "_law_q" = some d__law_q) (h2 : Γ "_law_number" = some r__law_number) (hs : Sok s) (q : ∀ a s', Sok s' → Lq 60 540 a → Q (pr a) s') : V (callF Γ (k + 3) "_law_number" [.strm]) s Q := by
  refine V_call h2 rfl ?_
  simp only [r__law_number]
  walk_at "mp mn"
  refine V_draw (k := k + 1) hd (by decide) (by decide +kernel) hs fun v s1 k1 _ _ => ?_
  walk_at "mp mn"
  split
  · refine V_draw (k := k + 1) hd (by decide) (by decide +kernel) k1 fun v s2 k2 v0 v1 => ?_
    walk_at "mp nx"
    rw [pr_i']
    exact q _ _ k2 (lq_int (by omega))
  · walk_at "mp nx"
    refine V_draw (k := k + 1) hd (by decide) (by decide +kernel) k1 fun v s2 k2 v0 v1 => ?_
    walk_at "mp nx"
    refine V_draw (k := k + 1) hd (by decide) (by decide +kernel) k2 fun u s3 k3 u0 u1 => ?_
    walk_at "mp nx"
    refine V_q (k := k) hdv hq (by omega) (by have : (1 + u).natAbs < 2 ^ 20 := by omega
                                              exact Nat.lt_trans this (Nat.pow_lt_pow_right (by decide) (by decide))) ?_
    walk_at "mp nx"
    exact q _ _ k3 (lq_div (by omega) u0 u1)
end
end Mp

namespace Mp
open PySem (Str CmpOp)
/-! ### faces -/
def rowsF (fs : List (List Rat × Rat)) (names : List Nat) : List (List Rat) := names.map fun k => (fs.getD k ([], 0)).1
/-- names below a number -/
theorem chs_lt (many : Nat) : ∀ i, ∀ row ∈ chs many i, ∀ k ∈ row, k < many
  | 0, row, h, k, hk => by
    rw [List.mem_singleton.mp h] at hk
    cases hk
  | i + 1, row, h, k, hk => by
    obtain ⟨r, hr, h⟩ := List.mem_flatMap.mp h
    obtain ⟨j, hj, rfl⟩ := List.mem_map.mp h
    rcases List.mem_append.mp hk with hk | hk
    · exact chs_lt many i r hr k hk
    · rw [List.mem_singleton.mp hk]
      have := List.mem_range.mp hj
      omega
theorem fm_at {fs : List (List Rat × Rat)} {k : Nat} (h : k < fs.length) : (fs.map fun f => encFm f.1 f.2)[k]? = some (encFm (fs.getD k ([], 0)).1 (fs.getD k ([], 0)).2) := by
  rw [List.getElem?_map, List.getElem?_eq_getElem h, List.getD_eq_getElem?_getD, List.getElem?_eq_getElem h]
  rfl
theorem fl_at {fs : List (List Rat × Rat)} {k : Nat} (h : k < fs.length) : (fs.map fun f => encFl f.1 f.2)[k]? = some (encFl (fs.getD k ([], 0)).1 (fs.getD k ([], 0)).2) := by
  rw [List.getElem?_map, List.getElem?_eq_getElem h, List.getD_eq_getElem?_getD, List.getElem?_eq_getElem h]
  rfl
theorem encN_noOwn (r : List Nat) : (encN r).noOwn = true := noOwns_map (f := fun (i : Nat) => D.int i) (fun _ => rfl) r
section
variable {Γ : String → Option MDef} {k : Nat} {s : Strm} {Q : D → Strm → Prop}
/-! ### where a quadratic rests -/
def slopeR (sq : List (List Rat)) (n i : Nat) : List Rat := (List.range n).map fun j => ent (sq.getD i []) j + ent (sq.getD j []) i
def restRows (sq : List (List Rat)) (fs : List (List Rat × Rat)) (n : Nat) (names : List Nat) : List (List Rat) :=
  ((List.range n).map fun i => slopeR sq n i ++ names.map fun k => -ent (fs.getD k ([], 0)).1 i) ++ names.map fun k => (fs.getD k ([], 0)).1 ++ List.replicate names.length 0
def restRight (ln : List Rat) (fs : List (List Rat × Rat)) (n : Nat) (names : List Nat) : List Rat :=
  ((List.range n).map fun i => -ent ln i) ++ names.map fun k => -(fs.getD k ([], 0)).2
def restE (sq : List (List Rat)) (ln : List Rat) (fs : List (List Rat × Rat)) (n : Nat) (names : List Nat) : Option (List Rat) :=
  if n = 0 then some [] else (solE (restRows sq fs n names) (restRight ln fs n names) (n + names.length)).map (·.take n)
structure QdL (n : Nat) (sq : List (List Rat)) (ln : List Rat) : Prop where
  sl : sq.length = n
  sr : ∀ r ∈ sq, r.length = n ∧ ∀ x ∈ r, Lq 60 540 x
  ll : ln.length = n
  lr : ∀ x ∈ ln, Lq 60 540 x
theorem rest_ok {sq : List (List Rat)} {ln : List Rat} {fs : List (List Rat × Rat)} {n : Nat} {names : List Nat} (hQ : QdL n sq ln) (hf : ∀ f ∈ fs, FmL n f) (hk : ∀ k ∈ names, k < fs.length) : (restRows sq fs n names).length = n + names.length ∧ (restRight ln fs n names).length = n + names.length ∧ (∀ r ∈ restRows sq fs n names, r.length = n + names.length) ∧ RC 11 (augE (restRows sq fs n names) (restRight ln fs n names)) := by
  have hfk : ∀ k ∈ names, FmL n (fs.getD k ([], 0)) := fun k h => hf _ (getD_mem (hk k h))
  have e0 : ∀ (r : List Rat) i, (∀ x ∈ r, Lq 60 1080 x) → Lq 60 1080 (ent r i) := fun r i h => by
    unfold ent
    exact getD_lq h
  have rows : ∀ r ∈ restRows sq fs n names, r.length = n + names.length ∧ ∀ x ∈ r, Lq 60 1080 x := fun r hr => by
    rcases List.mem_append.mp hr with hr | hr
    · obtain ⟨i, hi, rfl⟩ := List.mem_map.mp hr
      have hi := List.mem_range.mp hi
      refine ⟨by unfold slopeR; rw [List.length_append, List.length_map, List.length_map, List.length_range], fun x hx => ?_⟩
      rcases List.mem_append.mp hx with hx | hx
      · obtain ⟨j, hj, rfl⟩ := List.mem_map.mp hx
        have hj := List.mem_range.mp hj
        have h1 := getD_lq (j := j) (hQ.sr _ (getD_mem (d := []) (show i < sq.length by rw [hQ.sl]; exact hi))).2
        have h2 := getD_lq (j := i) (hQ.sr _ (getD_mem (d := []) (show j < sq.length by rw [hQ.sl]; exact hj))).2
        exact Lq.add h1 h2
      · obtain ⟨k, hk', rfl⟩ := List.mem_map.mp hx
        exact (e0 _ _ (hfk k hk').ln).neg
    · obtain ⟨k, hk', rfl⟩ := List.mem_map.mp hr
      refine ⟨by rw [List.length_append, (hfk k hk').len, List.length_replicate], fun x hx => ?_⟩
      rcases List.mem_append.mp hx with hx | hx
      · exact (hfk k hk').ln x hx
      · rw [(List.mem_replicate.mp hx).2]
        exact Lq.zero
  have rgt : ∀ x ∈ restRight ln fs n names, Lq 60 1080 x := fun x hx => by
    rcases List.mem_append.mp hx with hx | hx
    · obtain ⟨i, hi, rfl⟩ := List.mem_map.mp hx
      exact (e0 _ _ (fun x hx => (hQ.lr x hx).mono (by decide))).neg
    · obtain ⟨k, hk', rfl⟩ := List.mem_map.mp hx
      exact (hfk k hk').c.neg
  refine ⟨by unfold restRows; rw [List.length_append, List.length_map, List.length_map, List.length_range], by unfold restRight; rw [List.length_append, List.length_map, List.length_map, List.length_range], fun r hr => (rows r hr).1, 60, by decide, by decide, fun r hr x hx => ?_⟩
  unfold augE at hr
  rw [← List.map_uncurry_zip_eq_zipWith] at hr
  obtain ⟨p, hp, rfl⟩ := List.mem_map.mp hr
  have hx : x ∈ p.1 ++ [p.2] := hx
  rcases List.mem_append.mp hx with hx | hx
  · exact ((rows _ (List.of_mem_zip hp).1).2 x hx).mono (by decide)
  · rw [List.mem_singleton.mp hx]
    exact (rgt _ (List.of_mem_zip hp).2).mono (by decide)
theorem cut_upto {α : Type} (xs : List α) (n : Nat) : cut xs none (some (n : Int)) = xs.take n := by
  unfold cut six
  simp only [show ¬ (((n : Nat) : Int) < 0) by omega, if_false, Int.toNat_natCast, List.drop_zero, Nat.sub_zero]
  by_cases c : n ≤ xs.length
  · rw [show min n xs.length = n by omega]
  · rw [show min n xs.length = xs.length by omega, List.take_of_length_le (Nat.le_refl _), List.take_of_length_le (by omega)]
end
end Mp

namespace Mp
open PySem (Str CmpOp)
section
variable {Γ : String → Option MDef} {k : Nat} {s : Strm} {Q : D → Strm → Prop}
end
end Mp

namespace Mp
open PySem (Str CmpOp)
/-! ### least values -/
def d_come_before : MDef := ⟨2, 4, (.cons (.loop (.tup [2, 3]) (.zip (.var 0) (.var 1)) (.cons (.ite (.cmp .NotEq (.var 2) (.var 3)) (.cons (.ret (.call "is_less" (.cons (.var 2) (.cons (.var 3) .nil)))) .nil) .nil) .nil) [2, 3]) (.cons (.ret (.bl false)) .nil))⟩
def d__law_before : MDef := ⟨2, 3, (.cons (.loop (.nm 2) (.rng (.bi .len (.cons (.var 0) .nil))) (.cons (.ite (.cmp .NotEq (.ix (.var 0) (.var 2)) (.ix (.var 1) (.var 2))) (.cons (.ret (.call "_law_less" (.cons (.ix (.var 0) (.var 2)) (.cons (.ix (.var 1) (.var 2)) .nil)))) .nil) .nil) .nil) [2]) (.cons (.ret (.bl false)) .nil))⟩
def befE : List Rat → List Rat → Bool
  | a :: as, b :: bs => if a = b then befE as bs else decide (a < b)
  | _, _ => false
theorem cmpNe_rat (a b : Rat) : cmpD .NotEq (.rat a) (.rat b) = pure (!(a == b)) := rfl
theorem bef_drop : ∀ (as bs : List Rat) (i : Nat), (∀ j, j < i → j < as.length → j < bs.length → ent as j = ent bs j) → i ≤ as.length → i ≤ bs.length → befE (as.drop i) (bs.drop i) = befE as bs
  | _, _, 0, _, _, _ => rfl
  | a :: as, b :: bs, i + 1, h, h1, h2 => by
    have e : a = b := h 0 (Nat.succ_pos _) (Nat.succ_pos _) (Nat.succ_pos _)
    show befE (as.drop i) (bs.drop i) = if a = b then befE as bs else _
    rw [if_pos e]
    exact bef_drop as bs i (fun j hj hj1 hj2 => h (j + 1) (by omega) (by simpa using hj1) (by simpa using hj2)) (by simpa using h1) (by simpa using h2)
  | [], _, i + 1, _, h1, _ => absurd h1 (by simp)
  | _ :: _, [], i + 1, _, _, h2 => absurd h2 (by simp)
section
variable {Γ : String → Option MDef} {k : Nat} {s : Strm} {Q : D → Strm → Prop}
theorem V_before (hle : Γ "is_less" = some d_is_less) (h2 : Γ "come_before" = some d_come_before) {as bs : List Rat} (hl : as.length ≤ 1000) (ha : ∀ x ∈ as, Sm x) (hb : ∀ x ∈ bs, Sm x) (q : Q (.bl (befE as bs)) s) : V (callF Γ (k + 2) "come_before" [.lst false (as.map .rat), .lst false (bs.map .rat)]) s Q := by
  refine V_call h2 rfl ?_
  simp only [d_come_before]
  have hlim2 : LIM = 1000000 := rfl
  walk_at "mp nx"
  rw [zipD_rats]
  generalize hB : Bdy (callF Γ (k + 1)) _ = B
  generalize hN : Nxt (callF Γ (k + 1)) _ _ = N
  have nz : ∀ ps : List (Rat × Rat), D.noOwns (ps.map fun p => D.tup [.rat p.1, .rat p.2]) = true := fun ps => noOwns_map (f := fun p : Rat × Rat => D.tup [.rat p.1, .rat p.2]) (fun _ => rfl) ps
  refine ⟨noOwns_rats' as, noOwns_rats' bs, ⟨noOwns_rats' as, noOwns_rats' bs⟩, nz _, ?_⟩
  generalize hE : [some (D.lst false (as.map .rat)), some (D.lst false (bs.map .rat)), none, none] = E
  have fin : ∀ b : Bool, b = befE as bs → N (.ret (.bl b)) s := by
    rintro b rfl
    rw [← hN]
    walk_at "mp nx"
    exact q
  have fin0 : false = befE as bs → N (.nx E) s := fun h => by
    rw [← hN, ← hE]
    walk_at "mp nx"
    rw [h]
    exact q
  have key : ∀ (xs ys : List Rat), (∀ x ∈ xs, Sm x) → (∀ y ∈ ys, Sm y) → befE xs ys = befE as bs → V (forL B (.tup [2, 3]) [2, 3] ((List.zip xs ys).map fun p => D.tup [.rat p.1, .rat p.2]) E) s N := by
    intro xs
    induction xs with
    | nil =>
      intro ys _ _ h
      exact V_pure.mpr (fin0 (h ▸ by cases ys <;> rfl))
    | cons x xs ih =>
      intro ys hx hy h
      cases ys with
      | nil => exact V_pure.mpr (fin0 (h ▸ rfl))
      | cons y ys =>
        show V (forL B _ _ (D.tup [.rat x, .rat y] :: (List.zip xs ys).map fun p => D.tup [.rat p.1, .rat p.2]) E) s N
        rw [forL, ← hE]
        walk_at "mp mn"
        rw [← congrFun hB, Bdy_eq]
        walk_at "mp nx"
        rw [cmpNe_rat]
        walk_at "mp mn"
        by_cases c : x = y
        · rw [if_neg (by simp [c])]
          rw [show befE (x :: xs) (y :: ys) = befE xs ys from if_pos c] at h
          have := ih ys (fun z hz => hx z (List.mem_cons_of_mem _ hz)) (fun z hz => hy z (List.mem_cons_of_mem _ hz)) h
          rw [← hE] at this
          exact this
        · rw [if_pos (by simpa using c)]
          rw [show befE (x :: xs) (y :: ys) = decide (x < y) from if_neg c] at h
          refine V_is_less (k := k) hle (hx x List.mem_cons_self) (hy y List.mem_cons_self) ?_
          exact fin _ h
  exact key as bs ha hb rfl
theorem V_lawbefore (hle : Γ "_law_less" = some d__law_less) (h2 : Γ "_law_before" = some d__law_before) {as bs : List Rat} (hl : as.length ≤ 1000) (he : bs.length = as.length) (ha : ∀ x ∈ as, Sm x) (hb : ∀ x ∈ bs, Sm x) (q : Q (.bl (befE as bs)) s) : V (callF Γ (k + 2) "_law_before" [.lst false (as.map pr), .lst false (bs.map pr)]) s Q := by
  refine V_call h2 rfl ?_
  simp only [d__law_before]
  have hlim : (LIM : Int) = 1000000 := rfl
  have hlim2 : LIM = 1000000 := rfl
  walk_at "mp nx"
  rw [List.length_map]
  refine ⟨noOwns_prs' as, by omega, range_noOwn, ?_⟩
  generalize hB : Bdy (callF Γ (k + 1)) _ = B
  generalize hN : Nxt (callF Γ (k + 1)) _ _ = N
  refine V_for (fun i e t => t = s ∧ i ≤ as.length ∧ (∀ j, j < i → ent as j = ent bs j) ∧ e = [some (.lst false (as.map pr)), some (.lst false (bs.map pr)), none]) _ 0 ⟨rfl, Nat.zero_le _, fun j hj => absurd hj (Nat.not_lt_zero _), rfl⟩ ?_ ?_
  · rintro i x e t hx ⟨rfl, hi, hj0, rfl⟩
    obtain ⟨hj, rfl⟩ := range_get hx
    simp only [Int.toNat_natCast, Nat.zero_add, Int.zero_add] at hj hi hj0 ⊢
    walk_at "mp mn"
    rw [← congrFun hB, Bdy_eq]
    walk_at "mp nx"
    rw [ix_lst (row_at (e := pr) as hj)]
    walk_at "mp mn"
    rw [ix_lst (row_at (e := pr) bs (show i < bs.length by omega))]
    walk_at "mp mn"
    rw [cmpNe_pr]
    walk_at "mp mn"
    have hd := bef_drop as bs i (fun j hj1 _ _ => hj0 j hj1) (by omega) (by omega)
    by_cases c : ent as i = ent bs i
    · rw [if_neg (by simp [c])]
      refine ⟨by omega, fun j hj1 => ?_⟩
      by_cases e : j = i
      · rw [e]; exact c
      · exact hj0 j (by omega)
    · rw [if_pos (by simpa using c)]
      walk_at "mp nx"
      refine V_less (k := k) hle (ha _ (ent_mem hj)) (hb _ (ent_mem (show i < bs.length by omega))) ?_
      rw [← hN]
      walk_at "mp nx"
      rw [← hd] at q
      have e1 : as.drop i = ent as i :: as.drop (i + 1) := by
        unfold ent
        rw [List.getD_eq_getElem?_getD, List.getElem?_eq_getElem hj]
        exact List.drop_eq_getElem_cons hj
      have e2 : bs.drop i = ent bs i :: bs.drop (i + 1) := by
        unfold ent
        rw [List.getD_eq_getElem?_getD, List.getElem?_eq_getElem (show i < bs.length by omega)]
        exact List.drop_eq_getElem_cons (by omega)
      rw [e1, e2, show befE (ent as i :: as.drop (i + 1)) (ent bs i :: bs.drop (i + 1)) = decide (ent as i < ent bs i) from if_neg c] at q
      exact q
  · rintro e t ⟨rfl, _, hj0, rfl⟩
    rw [range_len, Int.toNat_natCast, Nat.zero_add] at hj0
    rw [← hN]
    walk_at "mp nx"
    have hd := bef_drop as bs as.length (fun j hj1 _ _ => hj0 j hj1) (Nat.le_refl _) (by omega)
    rw [List.drop_length] at hd
    rw [← hd] at q
    exact q
/-! sizes of the points and values -/
def PtL (n : Nat) (p : List Rat) : Prop := p.length = n ∧ ∃ L : Nat, 0 < L ∧ L ≤ 2 ^ 767 ∧ ∀ x ∈ p, Lq L (2 ^ 767) x
theorem aug_len {rows : List (List Rat)} {cs : List Rat} {w : Nat} (h : ∀ r ∈ rows, r.length = w) : ∀ r ∈ augE rows cs, r.length = w + 1 := fun r hr => by
  unfold augE at hr
  rw [← List.map_uncurry_zip_eq_zipWith] at hr
  obtain ⟨p, hp, rfl⟩ := List.mem_map.mp hr
  have := h _ (List.of_mem_zip hp).1
  show (p.1 ++ [p.2]).length = _
  rw [List.length_append, List.length_singleton]
  omega
theorem redE_lenR (rs : List (List Rat)) : ∀ w, (redE rs w).done.length = (redE rs w).leads.length
  | 0 => rfl
  | w + 1 => by
    have h := redE_lenR rs w
    rw [redE_succ]
    unfold stepE
    cases piv (redE rs w).left w with
    | nil => exact h
    | cons k r =>
      show ((redE rs w).done.map _ ++ [_]).length = ((redE rs w).leads ++ [_]).length
      rw [List.length_append, List.length_append, List.length_map, h]
      rfl
theorem solE_lenR (rows : List (List Rat)) (cs : List Rat) (w : Nat) : ∀ xs, solE rows cs w = some xs → xs.length = w := by
  intro xs h
  unfold solE at h
  by_cases c : (redE (augE rows cs) (w + 1)).leads = List.range w
  · rw [if_pos c] at h
    rw [← Option.some.inj h, List.length_map, redE_lenR, c, List.length_range]
  · rw [if_neg c] at h
    exact nomatch h
theorem rest_pt {sq : List (List Rat)} {ln : List Rat} {fs : List (List Rat × Rat)} {n : Nat} {names : List Nat} (hQ : QdL n sq ln) (hf : ∀ f ∈ fs, FmL n f) (hn : n ≤ 3) (hnl : names.length ≤ 3) (hk : ∀ k ∈ names, k < fs.length) {p : List Rat} (h : restE sq ln fs n names = some p) : PtL n p := by
  unfold restE at h
  by_cases hn0 : n = 0
  · rw [if_pos hn0] at h
    rw [← Option.some.inj h, hn0]
    exact ⟨rfl, 1, by decide, by decide, fun x hx => absurd hx List.not_mem_nil⟩
  · rw [if_neg hn0] at h
    obtain ⟨xs, hx, rfl⟩ := Option.map_eq_some_iff.mp h
    have hl := solE_lenR _ _ _ _ hx
    obtain ⟨ok1, ok2, ok3, ok4⟩ := rest_ok hQ hf hk
    refine ⟨by rw [List.length_take]; omega, ?_⟩
    have aw := aug_len (cs := restRight ln fs n names) ok3
    have st := red_okC aw ok4 (n + names.length + 1) (Nat.le_refl _)
    unfold solE at hx
    by_cases c : (redE (augE (restRows sq fs n names) (restRight ln fs n names)) (n + names.length + 1)).leads = List.range (n + names.length)
    · rw [if_pos c] at hx
      rw [c, List.length_range] at st
      have b6 := bnd_mono (b := 11) (show n + names.length ≤ 6 by omega)
      have b7 : bnd 11 6 = 767 := by decide
      obtain ⟨L, l0, l1, _, h2⟩ := (st.mono (show _ ≤ 767 by omega)).num
      have hlen := st.len.2
      refine ⟨L, l0, l1, fun x hxm => ?_⟩
      have := List.mem_of_mem_take hxm
      rw [← Option.some.inj hx] at this
      obtain ⟨r, hr, rfl⟩ := List.mem_map.mp this
      exact h2 r hr _ (ent_mem (by rw [hlen r hr]; omega))
    · rw [if_neg c] at hx
      exact nomatch hx
def C0 : Nat := 540 * 420 * (10 ^ 40 + 10 ^ 9)
theorem dot_lq {M E : Nat} : ∀ (as bs : List Rat) (z : Rat) (Z : Nat), (∀ a ∈ as, ∀ b ∈ bs, Lq M E (a * b)) → Lq M Z z → Lq M (Z + as.length * E) (dotR as bs z)
  | [], _, z, Z, _, h => h.mono (by omega)
  | a :: as, [], z, Z, _, h => h.mono (by omega)
  | a :: as, b :: bs, z, Z, hm, h => by
    have h1 := Lq.add h (hm a List.mem_cons_self b List.mem_cons_self)
    have := dot_lq as bs (z + a * b) (Z + E) (fun a ha b hb => hm a (List.mem_cons_of_mem _ ha) b (List.mem_cons_of_mem _ hb)) h1
    rw [List.length_cons, show Z + (as.length + 1) * E = Z + E + as.length * E by rw [Nat.add_mul]; omega]
    exact this
structure QdC (n : Nat) (sq : List (List Rat)) (ln : List Rat) (c : Rat) : Prop extends QdL n sq ln where
  cc : Lq 25200 C0 c
def Zof (L : Nat) : Nat := C0 * (L * L) + 3 * (226800 * 2 ^ 767 * L)
theorem pp : (2 : Nat) ^ 767 * 2 ^ 767 = 2 ^ 1534 := (Nat.pow_add 2 767 767).symm
theorem msz_of {L : Nat} (l0 : 0 < L) (l1 : L ≤ 2 ^ 767) : Msz 25200 226800 L (2 ^ 767) (Zof L) 1549 9 18 768 := by
  have ll : L * L ≤ 2 ^ 1534 := by rw [← pp]; exact Nat.mul_le_mul l1 l1
  have lp : 2 ^ 767 * L ≤ 2 ^ 1534 := by rw [← pp]; exact Nat.mul_le_mul_left _ l1
  refine ⟨by decide, l0, by decide, by decide, Nat.le_trans l1 (Nat.pow_le_pow_right (by decide) (by decide)), Nat.pow_lt_pow_right (by decide) (by decide), ?_, ?_, by decide⟩
  · rw [Nat.mul_assoc]
    refine Nat.le_trans (Nat.mul_le_mul (show 25200 ≤ 2 ^ 15 by decide) ll) ?_
    rw [← Nat.pow_add]
    exact Nat.pow_le_pow_right (by decide) (by decide)
  · have e1 : C0 * (L * L) ≤ C0 * 2 ^ 1534 := Nat.mul_le_mul_left _ ll
    have e2 : 226800 * 2 ^ 767 * L ≤ 226800 * 2 ^ 1534 := by rw [Nat.mul_assoc]; exact Nat.mul_le_mul_left _ lp
    have e3 : 226800 * 2 ^ 767 * 2 ^ 767 = 226800 * 2 ^ 1534 := by rw [Nat.mul_assoc, pp]
    have e4 : (C0 + 12 * 226800) * 2 ^ 1534 < 2 ^ 160 * 2 ^ 1534 := Nat.mul_lt_mul_of_pos_right (by decide) (Nat.two_pow_pos 1534)
    have e5 : (2 : Nat) ^ 160 * 2 ^ 1534 ≤ 2 ^ 4480 := by rw [← Nat.pow_add]; exact Nat.pow_le_pow_right (by decide) (by decide)
    rw [Nat.add_mul, Nat.mul_assoc 12] at e4
    unfold Zof
    rw [e3]
    generalize 226800 * 2 ^ 767 * L = a at e2 ⊢
    generalize 226800 * 2 ^ 1534 = b at e2 e4 ⊢
    generalize C0 * (L * L) = d at e1 ⊢
    generalize C0 * 2 ^ 1534 = d' at e1 e4
    generalize (2 : Nat) ^ 160 * 2 ^ 1534 = g at e4 e5
    omega
/-- sums of a form's terms, over the one denominator of the squares -/
theorem dot_sz {n : Nat} {sq : List (List Rat)} {ln p : List Rat} {c : Rat} {L : Nat} (hn : n ≤ 3) (hQ : QdC n sq ln c) (hp : ∀ x ∈ p, Lq L (2 ^ 767) x) (as bs : List Rat) (ha : ∀ a ∈ as, a ∈ ln) (hb : ∀ b ∈ bs, b ∈ p) (hl : as.length ≤ 3) : Lq (25200 * L * L) (Zof L) (dotR as bs c) := by
  have hc : Lq (25200 * L * L) (C0 * (L * L)) c := by rw [Nat.mul_assoc]; exact hQ.cc.up (L * L)
  have := dot_lq (M := 25200 * L * L) (E := 226800 * 2 ^ 767 * L) as bs c _ (fun a h b h' => by
    have h1 : Lq 25200 226800 a := (hQ.lr a (ha a h)).up 420
    exact (h1.times (hp b (hb b h'))).up L) hc
  refine this.mono ?_
  unfold Zof
  exact Nat.add_le_add_left (Nat.mul_le_mul_right _ hl) _
def valE (sq : List (List Rat)) (ln : List Rat) (c : Rat) (p : List Rat) : Rat := sqS p sq 0 (dotR ln p 0 + c)
end
end Mp

namespace Mp
open PySem (Str CmpOp)
def pickB (best : Option (Rat × List Rat)) (v : Rat) (p : List Rat) : Option (Rat × List Rat) := match best with
  | none => some (v, p)
  | some b => if v < b.1 then some (v, p) else if v = b.1 ∧ befE p b.2 = true then some (v, p) else some b
def stepBst (sq : List (List Rat)) (ln : List Rat) (c : Rat) (fs : List (List Rat × Rat)) (n : Nat) (best : Option (Rat × List Rat)) (names : List Nat) : Option (Rat × List Rat) :=
  match restE sq ln fs n names with
  | none => best
  | some p => if insB fs p = true then pickB best (valE sq ln c p) p else best
def BstOk (n : Nat) (b : Option (Rat × List Rat)) : Prop := ∀ x, b = some x → PtL n x.2 ∧ Sm x.1
theorem PtL.sm {n : Nat} {p : List Rat} (h : PtL n p) : ∀ x ∈ p, Sm x := fun x hx => by
  obtain ⟨_, L, l0, l1, h⟩ := h
  exact Zk.sm ((h x hx).zb (m := 768) l0 (Nat.le_trans l1 (Nat.pow_le_pow_right (by decide) (by decide))) (Nat.pow_lt_pow_right (by decide) (by decide))) (by decide)
theorem val_sm {n : Nat} {sq : List (List Rat)} {ln p : List Rat} {c : Rat} (hn : n ≤ 3) (hQ : QdC n sq ln c) (hp : PtL n p) : Sm (valE sq ln c p) := by
  obtain ⟨hl, L, l0, l1, h⟩ := hp
  have M := msz_of l0 l1
  have hz : Lq (25200 * L * L) (Zof L) (dotR ln p 0 + c) := by
    rw [← dotR_shift, Rat.zero_add]
    exact dot_sz hn hQ h ln p (fun _ h => h) (fun _ h => h) (by rw [hQ.ll]; exact hn)
  have z0 : QsB 25200 226800 L (2 ^ 767) (Zof L) 0 (dotR ln p 0 + c) := by unfold QsB; rw [Nat.zero_mul, Nat.add_zero]; exact hz
  have := sq_S (T := 3) h (rows := sq) (i := 0) (fun r hr => ⟨by have := (hQ.sr r hr).1; omega, fun x hx => ((hQ.sr r hr).2 x hx).up 420⟩) z0
  exact (M.ok (by rw [hQ.sl]; omega) this).1
theorem BstOk.step {sq : List (List Rat)} {ln : List Rat} {c : Rat} {fs : List (List Rat × Rat)} {n : Nat} {b : Option (Rat × List Rat)} {names : List Nat} (hQ : QdC n sq ln c) (hf : ∀ f ∈ fs, FmL n f) (hn : n ≤ 3) (hnl : names.length ≤ 3) (hk : ∀ k ∈ names, k < fs.length) (h : BstOk n b) : BstOk n (stepBst sq ln c fs n b names) := by
  unfold stepBst
  cases hr : restE sq ln fs n names with
  | none => exact h
  | some p =>
    have hp := rest_pt hQ.toQdL hf hn hnl hk hr
    have hv := val_sm hn hQ hp
    have new : BstOk n (some (valE sq ln c p, p)) := fun x hx => by rw [← Option.some.inj hx]; exact ⟨hp, hv⟩
    show BstOk n (if insB fs p = true then _ else b)
    split
    · cases b with
      | none => exact new
      | some b =>
        show BstOk n (if valE sq ln c p < b.1 then some (valE sq ln c p, p) else if valE sq ln c p = b.1 ∧ befE p b.2 = true then some (valE sq ln c p, p) else some b)
        split
        · exact new
        · split
          · exact new
          · exact h
    · exact h
section
variable {Γ : String → Option MDef} {k : Nat} {s : Strm} {Q : D → Strm → Prop}
end
end Mp

namespace Mp
open PySem (Str CmpOp)
section
variable {Γ : String → Option MDef} {k : Nat} {s : Strm} {Q : D → Strm → Prop}
end
end Mp

namespace Mp
open PySem (Str CmpOp)
/-! ### sums -/
def sumN : Nat → (Nat → Rat) → Rat
  | 0, _ => 0
  | n + 1, f => sumN n f + f n
theorem sumN_congr {n : Nat} {f g : Nat → Rat} (h : ∀ i, i < n → f i = g i) : sumN n f = sumN n g := by
  induction n with
  | zero => rfl
  | succ n ih => rw [sumN, sumN, ih (fun i hi => h i (by omega)), h n (by omega)]
theorem sumN_zero {n : Nat} {f : Nat → Rat} (h : ∀ i, i < n → f i = 0) : sumN n f = 0 := by
  induction n with
  | zero => rfl
  | succ n ih => rw [sumN, ih (fun i hi => h i (by omega)), h n (by omega), Rat.add_zero]
theorem sumN_add (n : Nat) (f g : Nat → Rat) : sumN n (fun i => f i + g i) = sumN n f + sumN n g := by
  induction n with
  | zero => rw [sumN, sumN, sumN, Rat.add_zero]
  | succ n ih => rw [sumN, sumN, sumN, ih]; grind
theorem sumN_mul (n : Nat) (a : Rat) (f : Nat → Rat) : sumN n (fun i => a * f i) = a * sumN n f := by
  induction n with
  | zero => rw [sumN, sumN, Rat.mul_zero]
  | succ n ih => rw [sumN, sumN, ih]; grind
theorem sumN_one {n j : Nat} (h : j < n) (f : Nat → Rat) : sumN n (fun i => if i = j then f i else 0) = f j := by
  induction n with
  | zero => omega
  | succ n ih =>
    rw [sumN]
    by_cases e : n = j
    · subst e
      rw [if_pos rfl, sumN_zero (fun i hi => if_neg (by omega)), Rat.zero_add]
    · rw [if_neg e, ih (by omega), Rat.add_zero]
theorem sumN_split (n m : Nat) (f : Nat → Rat) : sumN (n + m) f = sumN n f + sumN m (fun i => f (n + i)) := by
  induction m with
  | zero => rw [Nat.add_zero]; show _ = _ + 0; rw [Rat.add_zero]
  | succ m ih => rw [← Nat.add_assoc, sumN, sumN, ih]; grind
theorem sumN_swap (n m : Nat) (f : Nat → Nat → Rat) : sumN n (fun i => sumN m (fun j => f i j)) = sumN m (fun j => sumN n (fun i => f i j)) := by
  induction n with
  | zero =>
    show 0 = _
    rw [sumN_zero (n := m)]
    intro i _
    rfl
  | succ n ih =>
    rw [sumN, ih, ← sumN_add]
    exact sumN_congr fun i _ => rfl
/-! ### rows as functionals -/
def lin (r : List Rat) (X : Nat → Rat) : Rat := sumN r.length fun i => ent r i * X i
def Ker (rows : List (List Rat)) (X : Nat → Rat) : Prop := ∀ r ∈ rows, lin r X = 0
theorem ent_out {r : List Rat} {i : Nat} (h : r.length ≤ i) : ent r i = 0 := by
  unfold ent
  rw [List.getD_eq_getElem?_getD, List.getElem?_eq_none h]
  rfl
theorem ent_one (r : List Rat) (c i : Nat) : ent (oneR r c) i = ent r i / ent r c := by
  unfold oneR
  generalize ent r c = p
  unfold ent
  rw [List.getD_eq_getElem?_getD, List.getD_eq_getElem?_getD, List.getElem?_map]
  cases r[i]? with
  | none => show (0 : Rat) = 0 / p; grind
  | some x => rfl
theorem ent_les {r one : List Rat} {c : Nat} (h : one.length = r.length) (i : Nat) : ent (les one c r) i = ent r i - ent r c * ent one i := by
  unfold les
  split
  · rename_i z
    rw [z]
    grind
  · generalize ent r c = p
    unfold ent
    rw [List.getD_eq_getElem?_getD, List.getD_eq_getElem?_getD, List.getD_eq_getElem?_getD, List.getElem?_zipWith]
    by_cases hi : i < r.length
    · rw [List.getElem?_eq_getElem hi, List.getElem?_eq_getElem (by omega)]
      rfl
    · rw [List.getElem?_eq_none (by omega), List.getElem?_eq_none (by omega)]
      show (0 : Rat) = 0 - p * 0
      grind
theorem lin_one (r : List Rat) (c : Nat) (X : Nat → Rat) : lin (oneR r c) X = lin r X / ent r c := by
  unfold lin
  rw [show (oneR r c).length = r.length by unfold oneR; rw [List.length_map], Rat.div_def, Rat.mul_comm, ← sumN_mul]
  refine sumN_congr fun i _ => ?_
  rw [ent_one, Rat.div_def]
  grind
theorem lin_les {r one : List Rat} {c : Nat} (h : one.length = r.length) (X : Nat → Rat) : lin (les one c r) X = lin r X - ent r c * lin one X := by
  unfold lin
  rw [les_len h, h, ← sumN_mul]
  have : ∀ i, ent (les one c r) i * X i + ent r c * (ent one i * X i) = ent r i * X i := fun i => by rw [ent_les h]; grind
  have e := sumN_add r.length (fun i => ent (les one c r) i * X i) (fun i => ent r c * (ent one i * X i))
  rw [sumN_congr (g := fun i => ent r i * X i) (fun i _ => this i)] at e
  rw [e]
  grind
theorem getD_split {α : Type} (d : α) : ∀ (xs : List α) {k : Nat}, k < xs.length → ∃ a b, xs = a ++ xs.getD k d :: b ∧ xs.eraseIdx k = a ++ b
  | x :: xs, 0, _ => ⟨[], xs, rfl, rfl⟩
  | x :: xs, k + 1, h => by
    obtain ⟨a, b, e1, e2⟩ := getD_split d xs (k := k) (by simpa using h)
    refine ⟨x :: a, b, ?_, ?_⟩
    · rw [List.getD_cons_succ, List.cons_append, ← e1]
    · rw [List.eraseIdx_cons_succ, e2, List.cons_append]
  | [], k, h => absurd h (Nat.not_lt_zero _)
/-- one step of the elimination, seen from outside -/
structure Stp (s t : St3) (w c : Nat) : Prop where
  ex : (piv s.left c = [] ∧ t = s) ∨ ∃ a b row, s.left = a ++ row :: b ∧ row.length = w ∧ ent row c ≠ 0 ∧ t = ⟨(a ++ b).map (les (oneR row c) c), s.done.map (les (oneR row c) c) ++ [oneR row c], s.leads ++ [c]⟩
theorem stp_of {s : St3} {w c : Nat} (hl : ∀ r ∈ s.left, r.length = w) : Stp s (stepE s c) w c := by
  unfold stepE
  cases hp : piv s.left c with
  | nil => exact ⟨.inl ⟨hp, rfl⟩⟩
  | cons k ks =>
    obtain ⟨k1, k2⟩ := piv_mem hp
    obtain ⟨a, b, e1, e2⟩ := getD_split [] s.left k1
    exact ⟨.inr ⟨a, b, _, e1, hl _ (getD_mem k1), k2, by rw [← e2]⟩⟩
theorem piv_nil {rows : List (List Rat)} {c : Nat} (h : piv rows c = []) : ∀ r ∈ rows, ent r c = 0 := fun r hr => by
  obtain ⟨k, hk, e⟩ := List.mem_iff_getElem.mp hr
  by_cases z : ent r c = 0
  · exact z
  · have : k ∈ piv rows c := List.mem_filter.mpr ⟨List.mem_range.mpr hk, decide_eq_true (by
      rw [List.getD_eq_getElem?_getD, List.getElem?_eq_getElem hk]
      show ent rows[k] c ≠ 0
      rw [e]
      exact z)⟩
    rw [h] at this
    cases this
/-- the solutions stay -/
theorem ker_step {s t : St3} {w c : Nat} (hl : ∀ r ∈ s.left, r.length = w) (hd : ∀ r ∈ s.done, r.length = w) (h : Stp s t w c) (X : Nat → Rat) : (Ker s.left X ∧ Ker s.done X) ↔ (Ker t.left X ∧ Ker t.done X) := by
  rcases h.ex with ⟨_, rfl⟩ | ⟨a, b, row, e, hw, hp, rfl⟩
  · exact Iff.rfl
  · have ol : (oneR row c).length = w := by unfold oneR; rw [List.length_map, hw]
    have lo := lin_one row c X
    have hab : ∀ r ∈ a ++ b, r ∈ s.left := fun r hr => by
      rw [e]
      rcases List.mem_append.mp hr with h | h
      · exact List.mem_append_left _ h
      · exact List.mem_append_right _ (List.mem_cons_of_mem _ h)
    constructor
    · rintro ⟨k1, k2⟩
      have z : lin (oneR row c) X = 0 := by
        rw [lo, k1 row (by rw [e]; exact List.mem_append_right _ List.mem_cons_self)]
        grind
      refine ⟨fun r hr => ?_, fun r hr => ?_⟩
      · obtain ⟨r', hr', rfl⟩ := List.mem_map.mp hr
        rw [lin_les (by rw [ol, hl _ (hab r' hr')]), z, k1 r' (hab r' hr')]
        grind
      · rcases List.mem_append.mp hr with hr | hr
        · obtain ⟨r', hr', rfl⟩ := List.mem_map.mp hr
          rw [lin_les (by rw [ol, hd _ hr']), z, k2 r' hr']
          grind
        · rw [List.mem_singleton.mp hr]
          exact z
    · rintro ⟨k1, k2⟩
      have z : lin (oneR row c) X = 0 := k2 _ (List.mem_append_right _ (List.mem_singleton.mpr rfl))
      have zr : lin row X = 0 := by
        rw [z] at lo
        have : lin row X = lin row X / ent row c * ent row c := by grind
        rw [this, ← lo]
        grind
      have old : ∀ r, r.length = w → lin (les (oneR row c) c r) X = 0 → lin r X = 0 := fun r hr hz => by
        rw [lin_les (by rw [ol, hr]), z] at hz
        grind
      refine ⟨fun r hr => ?_, fun r hr => old r (hd r hr) (k2 _ (List.mem_append_left _ (List.mem_map_of_mem hr)))⟩
      by_cases er : r = row
      · rw [er]; exact zr
      · have hm : r ∈ a ++ b := by
          rw [e] at hr
          rcases List.mem_append.mp hr with h | h
          · exact List.mem_append_left _ h
          · rcases List.mem_cons.mp h with h | h
            · exact absurd h er
            · exact List.mem_append_right _ h
        exact old r (hl r (hab r hm)) (k1 _ (List.mem_map_of_mem hm))
theorem ker_red {rows : List (List Rat)} {w : Nat} (hr : ∀ r ∈ rows, r.length = w) (X : Nat → Rat) : ∀ c, Ker rows X ↔ (Ker (redE rows c).left X ∧ Ker (redE rows c).done X)
  | 0 => ⟨fun h => ⟨h, fun r hr => absurd hr List.not_mem_nil⟩, fun h => h.1⟩
  | c + 1 => by
    obtain ⟨l1, l2⟩ := red_len hr c
    rw [ker_red hr X c, redE_succ]
    exact ker_step l1 l2 (stp_of l1) X
/-! ### the shape behind so many columns -/
structure Ech (s : St3) (w c : Nat) : Prop where
  left : ∀ r ∈ s.left, r.length = w ∧ ∀ i, i < c → ent r i = 0
  len : s.done.length = s.leads.length
  dlen : ∀ r ∈ s.done, r.length = w
  lt : ∀ i, i < s.leads.length → s.leads.getD i 0 < c
  asc : ∀ i j, i < j → j < s.leads.length → s.leads.getD i 0 < s.leads.getD j 0
  unit : ∀ i j, i < s.leads.length → j < s.leads.length → ent (s.done.getD i []) (s.leads.getD j 0) = if i = j then 1 else 0
  lead : ∀ i, i < s.leads.length → ∀ j, j < s.leads.getD i 0 → ent (s.done.getD i []) j = 0
theorem getD_app1 {α : Type} {d : α} {xs ys : List α} {i : Nat} (h : i < xs.length) : (xs ++ ys).getD i d = xs.getD i d := by
  rw [List.getD_eq_getElem?_getD, List.getD_eq_getElem?_getD, List.getElem?_append_left h]
theorem getD_app2 {α : Type} {d x : α} {xs : List α} {i : Nat} (h : i = xs.length) : (xs ++ [x]).getD i d = x := by
  subst h
  rw [List.getD_eq_getElem?_getD, List.getElem?_append_right (Nat.le_refl _), Nat.sub_self]
  rfl
theorem getD_map' {α β : Type} {d : α} {e : β} {f : α → β} {xs : List α} {i : Nat} (h : i < xs.length) : (xs.map f).getD i e = f (xs.getD i d) := by
  rw [List.getD_eq_getElem?_getD, List.getD_eq_getElem?_getD, List.getElem?_map, List.getElem?_eq_getElem h]
  rfl
theorem Ech.step {s t : St3} {w c : Nat} (E : Ech s w c) (h : Stp s t w c) : Ech t w (c + 1) := by
  rcases h.ex with ⟨hp, rfl⟩ | ⟨a, b, row, e, hw, hp, rfl⟩
  · refine ⟨fun r hr => ⟨(E.left r hr).1, fun i hi => ?_⟩, E.len, E.dlen, fun i hi => Nat.lt_succ_of_lt (E.lt i hi), E.asc, E.unit, E.lead⟩
    rcases Nat.lt_succ_iff_lt_or_eq.mp hi with h | h
    · exact (E.left r hr).2 i h
    · rw [h]; exact piv_nil hp r hr
  · have hrow := (E.left row (by rw [e]; exact List.mem_append_right _ List.mem_cons_self)).2
    have ol : (oneR row c).length = w := by unfold oneR; rw [List.length_map, hw]
    have o0 : ∀ i, i < c → ent (oneR row c) i = 0 := fun i hi => by rw [ent_one, hrow i hi]; grind
    have o1 : ent (oneR row c) c = 1 := by rw [ent_one]; grind
    have hab : ∀ r ∈ a ++ b, r ∈ s.left := fun r hr => by
      rw [e]
      rcases List.mem_append.mp hr with h | h
      · exact List.mem_append_left _ h
      · exact List.mem_append_right _ (List.mem_cons_of_mem _ h)
    have dl : ∀ i, i < s.leads.length → (s.done.getD i []).length = w := fun i hi => E.dlen _ (getD_mem (by rw [E.len]; exact hi))
    have dg : ∀ i, i < s.leads.length → ((s.done.map (les (oneR row c) c) ++ [oneR row c]).getD i []) = les (oneR row c) c (s.done.getD i []) := fun i hi => by
      rw [getD_app1 (by rw [List.length_map, E.len]; exact hi), getD_map' (d := []) (by rw [E.len]; exact hi)]
    have dn : (s.done.map (les (oneR row c) c) ++ [oneR row c]).getD s.leads.length [] = oneR row c := getD_app2 (by rw [List.length_map, E.len])
    have lg : ∀ i, i < s.leads.length → (s.leads ++ [c]).getD i 0 = s.leads.getD i 0 := fun i hi => getD_app1 hi
    have ln : (s.leads ++ [c]).getD s.leads.length 0 = c := getD_app2 rfl
    have keep : ∀ i, i < s.leads.length → ∀ j, j < c → ent (les (oneR row c) c (s.done.getD i [])) j = ent (s.done.getD i []) j := fun i hi j hj => by
      rw [ent_les (by rw [ol, dl i hi]), o0 j hj]
      grind
    refine ⟨fun r hr => ?_, ?_, fun r hr => ?_, fun i hi => ?_, fun i j hij hj => ?_, fun i j hi hj => ?_, fun i hi j hj => ?_⟩
    · obtain ⟨r', hr', rfl⟩ := List.mem_map.mp hr
      obtain ⟨l1, l2⟩ := E.left r' (hab r' hr')
      refine ⟨by rw [les_len (by omega), l1], fun i hi => ?_⟩
      rw [ent_les (by rw [ol, l1])]
      rcases Nat.lt_succ_iff_lt_or_eq.mp hi with h | h
      · rw [l2 i h, o0 i h]; grind
      · rw [h, o1]; grind
    · show (s.done.map _ ++ [_]).length = (s.leads ++ [c]).length
      rw [List.length_append, List.length_append, List.length_map, E.len]
      rfl
    · rcases List.mem_append.mp hr with hr | hr
      · obtain ⟨r', hr', rfl⟩ := List.mem_map.mp hr
        rw [les_len (by rw [ol, E.dlen r' hr']), E.dlen r' hr']
      · rw [List.mem_singleton.mp hr]; exact ol
    · have hi : i < (s.leads ++ [c]).length := hi
      rw [List.length_append, List.length_singleton] at hi
      show (s.leads ++ [c]).getD i 0 < c + 1
      rcases Nat.lt_succ_iff_lt_or_eq.mp hi with h | h
      · rw [lg i h]; have := E.lt i h; omega
      · rw [h, ln]; omega
    · have hj : j < (s.leads ++ [c]).length := hj
      rw [List.length_append, List.length_singleton] at hj
      show (s.leads ++ [c]).getD i 0 < (s.leads ++ [c]).getD j 0
      rw [lg i (by omega)]
      rcases Nat.lt_succ_iff_lt_or_eq.mp hj with h | h
      · rw [lg j h]; exact E.asc i j hij h
      · rw [h, ln]; exact E.lt i (by omega)
    · have hi : i < (s.leads ++ [c]).length := hi
      have hj : j < (s.leads ++ [c]).length := hj
      rw [List.length_append, List.length_singleton] at hi hj
      show ent ((s.done.map (les (oneR row c) c) ++ [oneR row c]).getD i []) ((s.leads ++ [c]).getD j 0) = _
      rcases Nat.lt_succ_iff_lt_or_eq.mp hi with h | h
      · rw [dg i h]
        rcases Nat.lt_succ_iff_lt_or_eq.mp hj with h' | h'
        · rw [lg j h', keep i h _ (E.lt j h')]
          exact E.unit i j h h'
        · rw [h', ln, ent_les (by rw [ol, dl i h]), o1, if_neg (by omega)]
          grind
      · rw [h, dn]
        rcases Nat.lt_succ_iff_lt_or_eq.mp hj with h' | h'
        · rw [lg j h', o0 _ (E.lt j h'), if_neg (by omega)]
        · rw [h', ln, o1, if_pos rfl]
    · have hi : i < (s.leads ++ [c]).length := hi
      rw [List.length_append, List.length_singleton] at hi
      have hj : j < (s.leads ++ [c]).getD i 0 := hj
      show ent ((s.done.map (les (oneR row c) c) ++ [oneR row c]).getD i []) j = 0
      rcases Nat.lt_succ_iff_lt_or_eq.mp hi with h | h
      · rw [lg i h] at hj
        rw [dg i h, keep i h j (by have := E.lt i h; omega)]
        exact E.lead i h j hj
      · rw [h, ln] at hj
        rw [h, dn]
        exact o0 j hj
theorem ech_red {rows : List (List Rat)} {w : Nat} (hr : ∀ r ∈ rows, r.length = w) : ∀ c, Ech (redE rows c) w c
  | 0 => ⟨fun r h => ⟨hr r h, fun i hi => absurd hi (Nat.not_lt_zero _)⟩, rfl, fun r h => absurd h List.not_mem_nil, fun i hi => absurd hi (Nat.not_lt_zero _), fun i j _ hj => absurd hj (Nat.not_lt_zero _), fun i j hi => absurd hi (Nat.not_lt_zero _), fun i hi => absurd hi (Nat.not_lt_zero _)⟩
  | c + 1 => by
    rw [redE_succ]
    have E := ech_red hr c
    exact E.step (stp_of fun r h => (E.left r h).1)
/-! ### what the last shape tells -/
theorem asc_ge {s : St3} {w c : Nat} (E : Ech s w c) : ∀ i, i < s.leads.length → i ≤ s.leads.getD i 0
  | 0, _ => Nat.zero_le _
  | i + 1, h => by
    have h1 := asc_ge E i (by omega)
    have h2 := E.asc i (i + 1) (by omega) h
    omega
/-- a column that leads nothing gives a solution -/
def freeV (s : St3) (f : Nat) : Nat → Rat := fun c => if c = f then 1 else sumN s.leads.length fun i => if c = s.leads.getD i 0 then -ent (s.done.getD i []) f else 0
theorem freeV_lead {s : St3} {w c f : Nat} (E : Ech s w c) (hf : ∀ i, i < s.leads.length → s.leads.getD i 0 ≠ f) {i : Nat} (hi : i < s.leads.length) : freeV s f (s.leads.getD i 0) = -ent (s.done.getD i []) f := by
  unfold freeV
  rw [if_neg (hf i hi)]
  have : ∀ j, j < s.leads.length → (if s.leads.getD i 0 = s.leads.getD j 0 then -ent (s.done.getD j []) f else 0) = if j = i then -ent (s.done.getD j []) f else 0 := fun j hj => by
    by_cases e : j = i
    · rw [e, if_pos rfl, if_pos rfl]
    · rw [if_neg e, if_neg]
      intro z
      rcases Nat.lt_or_gt_of_ne e with h | h
      · have := E.asc j i h hi; omega
      · have := E.asc i j h hj; omega
  rw [sumN_congr this]
  exact sumN_one hi (fun j => -ent (s.done.getD j []) f)
theorem freeV_other {s : St3} {f c : Nat} (h1 : c ≠ f) (h : ∀ i, i < s.leads.length → s.leads.getD i 0 ≠ c) : freeV s f c = 0 := by
  unfold freeV
  rw [if_neg h1]
  exact sumN_zero fun i hi => if_neg (fun z => h i hi z.symm)
theorem freeV_up {s : St3} {w b f c : Nat} (E : Ech s w b) (hf : ∀ i, i < s.leads.length → s.leads.getD i 0 ≠ f) (h : f < c) : freeV s f c = 0 := by
  by_cases z : ∃ i, i < s.leads.length ∧ s.leads.getD i 0 = c
  · obtain ⟨i, hi, rfl⟩ := z
    rw [freeV_lead E hf hi, E.lead i hi f h]
    grind
  · exact freeV_other (by omega) fun i hi e => z ⟨i, hi, e⟩
theorem freeV_done {s : St3} {w b f : Nat} (E : Ech s w b) (hb : b ≤ w) (hfw : f < w) (hf : ∀ i, i < s.leads.length → s.leads.getD i 0 ≠ f) : Ker s.done (freeV s f) := fun r hr => by
  obtain ⟨i, hi, e⟩ := List.mem_iff_getElem.mp hr
  have hi' : i < s.leads.length := by rw [← E.len]; exact hi
  have er : r = s.done.getD i [] := by rw [List.getD_eq_getElem?_getD, List.getElem?_eq_getElem hi]; exact e.symm
  have hl := E.dlen r hr
  unfold lin
  rw [hl]
  have key : ∀ c, c < w → ent r c * freeV s f c = (if c = f then ent r c else 0) + (if c = s.leads.getD i 0 then -ent r f else 0) := fun c hc => by
    by_cases h1 : c = f
    · subst h1
      rw [if_pos rfl, if_neg (fun z => hf i hi' z.symm)]
      unfold freeV
      rw [if_pos rfl]
      grind
    · rw [if_neg h1]
      by_cases z : ∃ j, j < s.leads.length ∧ s.leads.getD j 0 = c
      · obtain ⟨j, hj, rfl⟩ := z
        rw [freeV_lead E hf hj, er, E.unit i j hi' hj]
        by_cases e : i = j
        · subst e
          rw [if_pos rfl, if_pos rfl]
          grind
        · rw [if_neg e, if_neg]
          · grind
          · intro z
            rcases Nat.lt_or_gt_of_ne e with h | h
            · have := E.asc i j h hj; omega
            · have := E.asc j i h hi'; omega
      · rw [freeV_other h1 (fun j hj e => z ⟨j, hj, e⟩), if_neg (fun e => z ⟨i, hi', e.symm⟩)]
        grind
  rw [sumN_congr key, sumN_add, sumN_one hfw (fun c => ent r c), sumN_one (by have := E.lt i hi'; omega) (fun _ => -ent r f)]
  grind
theorem left_zero {s : St3} {w : Nat} (E : Ech s w w) (X : Nat → Rat) : Ker s.left X := fun r hr => by
  obtain ⟨h1, h2⟩ := E.left r hr
  unfold lin
  exact sumN_zero fun i hi => by rw [h2 i (by omega)]; grind
/-- all columns lead, or one is free -/
theorem full_or {s : St3} {w b : Nat} (E : Ech s w b) (m : Nat) : (∃ f, f < m ∧ ∀ i, i < s.leads.length → s.leads.getD i 0 ≠ f) ∨ (m ≤ s.leads.length ∧ ∀ i, i < m → s.leads.getD i 0 = i) := by
  induction m with
  | zero => exact .inr ⟨Nat.zero_le _, fun i hi => absurd hi (Nat.not_lt_zero _)⟩
  | succ m ih =>
    rcases ih with ⟨f, h1, h2⟩ | ⟨h1, h2⟩
    · exact .inl ⟨f, by omega, h2⟩
    · by_cases z : ∃ i, i < s.leads.length ∧ s.leads.getD i 0 = m
      · obtain ⟨i, hi, e⟩ := z
        have hge := asc_ge E i hi
        have : i = m := by
          rcases Nat.lt_or_ge i m with h | h
          · have := h2 i h; omega
          · omega
        subst this
        refine .inr ⟨hi, fun j hj => ?_⟩
        rcases Nat.lt_succ_iff_lt_or_eq.mp hj with h | h
        · exact h2 j h
        · rw [h]; exact e
      · exact .inl ⟨m, by omega, fun i hi e => z ⟨i, hi, e⟩⟩
theorem leads_range {s : St3} {m : Nat} (h1 : s.leads.length = m) (h2 : ∀ i, i < m → s.leads.getD i 0 = i) : s.leads = List.range m := by
  refine List.ext_getElem (by rw [List.length_range, h1]) fun i hi hi' => ?_
  have := h2 i (by omega)
  rw [List.getD_eq_getElem?_getD, List.getElem?_eq_getElem hi] at this
  rw [List.getElem_range]
  exact this
theorem leads_le {s : St3} {w b : Nat} (E : Ech s w b) : s.leads.length ≤ b := by
  rcases Nat.eq_zero_or_pos s.leads.length with h | h
  · omega
  · have h1 := asc_ge E (s.leads.length - 1) (by omega)
    have h2 := E.lt (s.leads.length - 1) (by omega)
    omega
/-- a solution that is not zero, where a column is free -/
theorem ker_free {rows : List (List Rat)} {w f : Nat} (hr : ∀ r ∈ rows, r.length = w) (hfw : f < w) (hf : ∀ i, i < (redE rows w).leads.length → (redE rows w).leads.getD i 0 ≠ f) : ∃ Y, Ker rows Y ∧ Y f = 1 ∧ ∀ c, f < c → Y c = 0 := by
  have E := ech_red hr w
  refine ⟨freeV (redE rows w) f, (ker_red hr _ w).mpr ⟨left_zero E _, freeV_done E (Nat.le_refl _) hfw hf⟩, ?_, fun c hc => freeV_up E hf hc⟩
  unfold freeV
  rw [if_pos rfl]
/-! ### one solution -/
theorem aug_lens {rows : List (List Rat)} {cs : List Rat} {w : Nat} (h : ∀ r ∈ rows, r.length = w) : ∀ r ∈ augE rows cs, r.length = w + 1 := fun r hr => by
  unfold augE at hr
  rw [← List.map_uncurry_zip_eq_zipWith] at hr
  obtain ⟨p, hp, rfl⟩ := List.mem_map.mp hr
  have := h _ (List.of_mem_zip hp).1
  show (p.1 ++ [p.2]).length = _
  rw [List.length_append, List.length_singleton, this]
def hom (p : List Rat) (w : Nat) : Nat → Rat := fun i => if i = w then -1 else ent p i
/-- the only solution -/
theorem sol_only {rows : List (List Rat)} {cs : List Rat} {w : Nat} {p : List Rat} (hr : ∀ r ∈ rows, r.length = w) (h : solE rows cs w = some p) : p.length = w ∧ ∀ X : Nat → Rat, X w = -1 → (Ker (augE rows cs) X ↔ ∀ i, i < w → X i = ent p i) := by
  unfold solE at h
  split at h
  · rename_i hl
    have E := ech_red (aug_lens hr (cs := cs)) (w + 1)
    have hlen : (redE (augE rows cs) (w + 1)).leads.length = w := by rw [hl, List.length_range]
    have hld : ∀ i, i < w → (redE (augE rows cs) (w + 1)).leads.getD i 0 = i := fun i hi => by
      rw [hl, List.getD_eq_getElem?_getD, List.getElem?_range hi]
      rfl
    have ep := Option.some.inj h
    have kr := fun X => ker_red (aug_lens hr (cs := cs)) X (w + 1)
    generalize redE (augE rows cs) (w + 1) = s at *
    have pl : p.length = w := by rw [← ep, List.length_map, E.len, hlen]
    refine ⟨pl, fun X hX => ?_⟩
    have pe : ∀ i, i < w → ent p i = ent (s.done.getD i []) w := fun i hi => by
      rw [← ep]
      have : ent (s.done.map fun r => ent r w) i = (fun r => ent r w) (s.done.getD i []) := getD_map' (by rw [E.len]; omega)
      exact this
    have row : ∀ i, i < w → lin (s.done.getD i []) X = X i - ent p i := fun i hi => by
      unfold lin
      rw [E.dlen _ (getD_mem (by rw [E.len]; omega)), sumN, hX, pe i hi]
      have : ∀ j, j < w → ent (s.done.getD i []) j * X j = if j = i then X j else 0 := fun j hj => by
        have u := E.unit i j (by omega) (by omega)
        rw [hld j hj] at u
        rw [u]
        by_cases e : i = j
        · rw [if_pos e, if_pos e.symm]; grind
        · rw [if_neg e, if_neg (fun z => e z.symm)]; grind
      rw [sumN_congr this, sumN_one hi X]
      grind
    rw [kr]
    constructor
    · rintro ⟨_, k2⟩ i hi
      have := k2 _ (getD_mem (d := []) (show i < s.done.length by rw [E.len]; omega))
      rw [row i hi] at this
      grind
    · refine fun h => ⟨left_zero E X, fun r hr => ?_⟩
      obtain ⟨i, hi, e⟩ := List.mem_iff_getElem.mp hr
      have hi' : i < w := by rw [E.len] at hi; omega
      have er : r = s.done.getD i [] := by rw [List.getD_eq_getElem?_getD, List.getElem?_eq_getElem hi]; exact e.symm
      rw [er, row i hi', h i hi']
      grind
  · cases h
/-- no solution, or more than one: a direction -/
theorem sol_none {rows : List (List Rat)} {cs : List Rat} {w : Nat} (hr : ∀ r ∈ rows, r.length = w) (hl : rows.length ≤ w) (h : solE rows cs w = none) : ∃ Y, Ker (augE rows cs) Y ∧ Y w = 0 ∧ ∃ f, f < w ∧ Y f ≠ 0 := by
  unfold solE at h
  split at h
  · cases h
  · rename_i hne
    have ha := aug_lens hr (cs := cs)
    have E := ech_red ha (w + 1)
    have hs := redE_sum (augE rows cs) (w + 1)
    have hal : (augE rows cs).length ≤ rows.length := by unfold augE; rw [List.length_zipWith]; omega
    rcases full_or E w with ⟨f, h1, h2⟩ | ⟨h1, h2⟩
    · obtain ⟨Y, y1, y2, y3⟩ := ker_free ha (by omega : f < w + 1) h2
      exact ⟨Y, y1, y3 w h1, f, h1, by rw [y2]; decide⟩
    · exact absurd (leads_range (by omega) h2) hne
/-- rows whose only common zero is 0 -/
theorem sol_some {rows : List (List Rat)} {cs : List Rat} {w : Nat} (hr : ∀ r ∈ rows, r.length = w) (hl : rows.length ≤ w) (h : ∀ Y, Ker (augE rows cs) Y → Y w = 0 → ∀ f, f < w → Y f = 0) : ∃ p, solE rows cs w = some p := by
  cases e : solE rows cs w with
  | some p => exact ⟨p, rfl⟩
  | none =>
    obtain ⟨Y, y1, y2, f, h1, h2⟩ := sol_none hr hl e
    exact absurd (h Y y1 y2 f h1) h2
theorem ent_app1 {r s : List Rat} {i : Nat} (h : i < r.length) : ent (r ++ s) i = ent r i := getD_app1 h
theorem ent_app2 {r s : List Rat} {i : Nat} : ent (r ++ s) (r.length + i) = ent s i := by
  unfold ent
  rw [List.getD_eq_getElem?_getD, List.getD_eq_getElem?_getD, List.getElem?_append_right (by omega), Nat.add_sub_cancel_left]
theorem lin_snoc (r : List Rat) (c : Rat) (X : Nat → Rat) : lin (r ++ [c]) X = lin r X + c * X r.length := by
  unfold lin
  rw [List.length_append, List.length_singleton, sumN]
  congr 1
  · exact sumN_congr fun i hi => by rw [ent_app1 hi]
  · have := ent_app2 (r := r) (s := [c]) (i := 0)
    rw [Nat.add_zero] at this
    rw [this]
    rfl
theorem lin_app (r s : List Rat) (X : Nat → Rat) : lin (r ++ s) X = lin r X + lin s (fun i => X (r.length + i)) := by
  unfold lin
  rw [List.length_append, sumN_split]
  congr 1
  · exact sumN_congr fun i hi => by rw [ent_app1 hi]
  · exact sumN_congr fun i hi => by rw [ent_app2]
/-- row by row -/
theorem ker_aug {rows : List (List Rat)} {cs : List Rat} {w : Nat} (hr : ∀ r ∈ rows, r.length = w) (hc : cs.length = rows.length) (X : Nat → Rat) : Ker (augE rows cs) X ↔ ∀ i, i < rows.length → lin (rows.getD i []) X + ent cs i * X w = 0 := by
  have at_ : ∀ i, i < rows.length → ∃ h : i < (augE rows cs).length, (augE rows cs)[i] = rows.getD i [] ++ [ent cs i] := fun i hi => by
    refine ⟨by unfold augE; rw [List.length_zipWith]; omega, ?_⟩
    unfold augE ent
    rw [List.getElem_zipWith, List.getD_eq_getElem?_getD, List.getD_eq_getElem?_getD, List.getElem?_eq_getElem hi, List.getElem?_eq_getElem (by omega : i < cs.length)]
    rfl
  constructor
  · intro h i hi
    obtain ⟨h1, e⟩ := at_ i hi
    have := h _ (List.getElem_mem h1)
    rw [e, lin_snoc, hr _ (getD_mem hi)] at this
    exact this
  · intro h r hr'
    obtain ⟨i, hi, rfl⟩ := List.mem_iff_getElem.mp hr'
    have hi' : i < rows.length := by
      have : (augE rows cs).length = rows.length := by unfold augE; rw [List.length_zipWith]; omega
      omega
    obtain ⟨h1, e⟩ := at_ i hi'
    rw [e, lin_snoc, hr _ (getD_mem hi')]
    exact h i hi'
/-! ### independent rows -/
def csum (m : List Rat) (l : List (List Rat)) (c : Nat) : Rat := sumN l.length fun i => ent m i * ent (l.getD i []) c
def Ind (l : List (List Rat)) : Prop := ∀ m : List Rat, m.length = l.length → (∀ c, csum m l c = 0) → ∀ i, i < l.length → ent m i = 0
theorem csum_cons (x : Rat) (m : List Rat) (r : List Rat) (l : List (List Rat)) (c : Nat) : csum (x :: m) (r :: l) c = x * ent r c + csum m l c := by
  unfold csum
  rw [List.length_cons, Nat.add_comm, sumN_split]
  congr 1
  · show sumN 0 _ + _ = _
    rw [sumN, Rat.zero_add]
    rfl
  · refine sumN_congr fun i _ => ?_
    rw [Nat.add_comm 1 i]
    rfl
theorem csum_app (m m' : List Rat) (l l' : List (List Rat)) (h : m.length = l.length) (c : Nat) : csum (m ++ m') (l ++ l') c = csum m l c + csum m' l' c := by
  unfold csum
  rw [List.length_append, sumN_split]
  congr 1
  · exact sumN_congr fun i hi => by rw [ent_app1 (by omega), getD_app1 hi]
  · refine sumN_congr fun i hi => ?_
    have e1 := ent_app2 (r := m) (s := m') (i := i)
    rw [h] at e1
    rw [e1]
    congr 2
    rw [List.getD_eq_getElem?_getD, List.getD_eq_getElem?_getD, List.getElem?_append_right (by omega), Nat.add_sub_cancel_left]
theorem ind_iff {l : List (List Rat)} : Ind l ↔ ∀ m : List Rat, m.length = l.length → (∀ c, csum m l c = 0) → ∀ x ∈ m, x = 0 := by
  constructor
  · intro h m hm hc x hx
    obtain ⟨i, hi, rfl⟩ := List.mem_iff_getElem.mp hx
    have := h m hm hc i (by omega)
    unfold ent at this
    rw [List.getD_eq_getElem?_getD, List.getElem?_eq_getElem hi] at this
    exact this
  · intro h m hm hc i hi
    exact h m hm hc _ (getD_mem (by omega))
theorem split_at {α : Type} (m : List α) {a b : Nat} (h : m.length = a + b) : ∃ m1 m2, m = m1 ++ m2 ∧ m1.length = a ∧ m2.length = b :=
  ⟨m.take a, m.drop a, (List.take_append_drop a m).symm, by rw [List.length_take]; omega, by rw [List.length_drop]; omega⟩
theorem ind_mid {a b : List (List Rat)} {x : List Rat} : Ind (a ++ x :: b) ↔ Ind (x :: (a ++ b)) := by
  rw [ind_iff, ind_iff]
  constructor
  · intro h m hm hc y hy
    cases m with
    | nil => cases hm
    | cons z m =>
      obtain ⟨m1, m2, rfl, l1, l2⟩ := split_at m (a := a.length) (b := b.length) (by rw [List.length_cons, List.length_cons, List.length_append] at hm; omega)
      refine h (m1 ++ z :: m2) (by rw [List.length_append, List.length_append, List.length_cons, List.length_cons]; omega) (fun c => ?_) y ?_
      · have := hc c
        rw [csum_cons, csum_app _ _ _ _ l1] at this
        rw [csum_app _ _ _ _ l1, csum_cons]
        grind
      · simp only [List.mem_cons, List.mem_append] at hy ⊢
        rcases hy with h | h | h
        · exact .inr (.inl h)
        · exact .inl h
        · exact .inr (.inr h)
  · intro h m hm hc y hy
    obtain ⟨m1, m2, rfl, l1, l2⟩ := split_at m (a := a.length) (b := b.length + 1) (by rw [List.length_append, List.length_cons] at hm; omega)
    cases m2 with
    | nil => cases l2
    | cons z m2 =>
      refine h (z :: (m1 ++ m2)) (by rw [List.length_cons, List.length_cons, List.length_append, List.length_append]; rw [List.length_cons] at l2; omega) (fun c => ?_) y ?_
      · have := hc c
        rw [csum_app _ _ _ _ l1, csum_cons] at this
        rw [csum_cons, csum_app _ _ _ _ l1]
        grind
      · simp only [List.mem_cons, List.mem_append] at hy ⊢
        rcases hy with h | h | h
        · exact .inr (.inl h)
        · exact .inl h
        · exact .inr (.inr h)
theorem csum_les {R : List (List Rat)} {one : List Rat} {c : Nat} (hR : ∀ r ∈ R, one.length = r.length) (m : List Rat) (i : Nat) : csum m (R.map (les one c)) i = csum m R i - csum m R c * ent one i := by
  unfold csum
  rw [List.length_map]
  have : ∀ j, j < R.length → ent m j * ent ((R.map (les one c)).getD j []) i = ent m j * ent (R.getD j []) i + (-ent one i) * (ent m j * ent (R.getD j []) c) := fun j hj => by
    rw [getD_map' (d := []) hj, ent_les (hR _ (getD_mem hj))]
    grind
  rw [sumN_congr this, sumN_add, sumN_mul]
  grind
theorem ind_elim {R : List (List Rat)} {row : List Rat} {c w : Nat} (hR : ∀ r ∈ R, r.length = w) (hw : row.length = w) (hp : ent row c ≠ 0) : Ind (row :: R) ↔ Ind (oneR row c :: R.map (les (oneR row c) c)) := by
  have ol : (oneR row c).length = w := by unfold oneR; rw [List.length_map, hw]
  have hR' : ∀ r ∈ R, (oneR row c).length = r.length := fun r hr => by rw [ol, hR r hr]
  have z0 : ∀ (m : List Rat) (c : Nat), (∀ x ∈ m, x = 0) → csum m R c = 0 := fun m c h => by
    unfold csum
    refine sumN_zero fun i _ => ?_
    have : ent m i = 0 := by
      by_cases hi : i < m.length
      · exact h _ (getD_mem hi)
      · exact ent_out (by omega)
    rw [this]
    grind
  rw [ind_iff, ind_iff]
  constructor
  · intro h m hm hc y hy
    cases m with
    | nil => cases hm
    | cons x m =>
      have hm' : m.length = R.length := by rw [List.length_cons, List.length_cons, List.length_map] at hm; omega
      have all := h ((x / ent row c - csum m R c / ent row c) :: m) (by rw [List.length_cons, List.length_cons, hm']) fun i => by
        have := hc i
        rw [csum_cons, csum_les hR', ent_one] at this
        rw [csum_cons]
        grind
      have zm : ∀ y ∈ m, y = 0 := fun y hy => all y (List.mem_cons_of_mem _ hy)
      have zx := all _ List.mem_cons_self
      rw [z0 m c zm] at zx
      rcases List.mem_cons.mp hy with h | h
      · rw [h]; grind
      · exact zm y h
  · intro h m hm hc y hy
    cases m with
    | nil => cases hm
    | cons x m =>
      have hm' : m.length = R.length := by rw [List.length_cons, List.length_cons] at hm; omega
      have all := h ((x * ent row c + csum m R c) :: m) (by rw [List.length_cons, List.length_cons, List.length_map, hm']) fun i => by
        have := hc i
        rw [csum_cons] at this
        rw [csum_cons, csum_les hR', ent_one]
        grind
      have zm : ∀ y ∈ m, y = 0 := fun y hy => all y (List.mem_cons_of_mem _ hy)
      have zx := all _ List.mem_cons_self
      rw [z0 m c zm] at zx
      rcases List.mem_cons.mp hy with h | h
      · rw [h]; grind
      · exact zm y h
theorem ind_step {s t : St3} {w c : Nat} (hl : ∀ r ∈ s.left, r.length = w) (hd : ∀ r ∈ s.done, r.length = w) (h : Stp s t w c) : Ind (s.left ++ s.done) ↔ Ind (t.left ++ t.done) := by
  rcases h.ex with ⟨_, rfl⟩ | ⟨a, b, row, e, hw, hp, rfl⟩
  · exact Iff.rfl
  · have hab : ∀ r ∈ a ++ (b ++ s.done), r.length = w := fun r hr => by
      simp only [List.mem_append] at hr
      rcases hr with h | h | h
      · exact hl r (by rw [e]; exact List.mem_append_left _ h)
      · exact hl r (by rw [e]; exact List.mem_append_right _ (List.mem_cons_of_mem _ h))
      · exact hd r h
    rw [e, List.append_assoc, List.cons_append, ind_mid, ind_elim hab hw hp]
    show _ ↔ Ind ((a ++ b).map (les (oneR row c) c) ++ (s.done.map (les (oneR row c) c) ++ [oneR row c]))
    rw [← List.append_assoc (List.map _ (a ++ b)), ind_mid, List.append_nil, ← List.map_append, List.append_assoc]
theorem ind_red {rows : List (List Rat)} {w : Nat} (hr : ∀ r ∈ rows, r.length = w) : ∀ c, Ind rows ↔ Ind ((redE rows c).left ++ (redE rows c).done)
  | 0 => by show _ ↔ Ind (rows ++ []); rw [List.append_nil]
  | c + 1 => by
    obtain ⟨l1, l2⟩ := red_len hr c
    rw [ind_red hr c, redE_succ]
    exact ind_step l1 l2 (stp_of l1)
theorem ind_leads {rows : List (List Rat)} {w : Nat} (hr : ∀ r ∈ rows, r.length = w) : Ind rows ↔ (redE rows w).leads.length = rows.length := by
  have E := ech_red hr w
  have hs := redE_sum rows w
  rw [ind_red hr w]
  generalize redE rows w = s at *
  constructor
  · intro h
    cases hl : s.left with
    | nil => rw [hl] at hs; simpa using hs
    | cons r l =>
      exfalso
      rw [hl] at h
      have hr0 := E.left r (by rw [hl]; exact List.mem_cons_self)
      have := h (1 :: List.replicate (l ++ s.done).length 0) (by simp) (fun c => by
        rw [List.cons_append, csum_cons]
        have e0 : ent r c = 0 := by
          by_cases hc : c < w
          · exact hr0.2 c hc
          · exact ent_out (by omega)
        have : csum (List.replicate (l ++ s.done).length 0) (l ++ s.done) c = 0 := by
          unfold csum
          refine sumN_zero fun i hi => ?_
          have : ent (List.replicate (l ++ s.done).length 0) i = 0 := by
            unfold ent
            rw [List.getD_eq_getElem?_getD, List.getElem?_replicate]
            split <;> rfl
          rw [this]
          grind
        rw [this, e0]
        grind) 0 (by simp)
      exact absurd (show (1 : Rat) = 0 from this) (by decide)
  · intro h
    have hl : s.left = [] := List.length_eq_zero_iff.mp (by omega)
    rw [hl, List.nil_append]
    intro m hm hc i hi
    rw [E.len] at hm hi
    have := hc (s.leads.getD i 0)
    unfold csum at this
    rw [E.len] at this
    have key : ∀ j, j < s.leads.length → ent m j * ent (s.done.getD j []) (s.leads.getD i 0) = if j = i then ent m j else 0 := fun j hj => by
      rw [E.unit j i hj hi]
      by_cases e : j = i
      · rw [if_pos e, if_pos e]; grind
      · rw [if_neg e, if_neg e]; grind
    rw [sumN_congr key, sumN_one hi] at this
    exact this
end Mp

namespace Mp
open PySem (Str CmpOp)
/-! ### quadratics by sums -/
theorem sumN_head (n : Nat) (f : Nat → Rat) : sumN (n + 1) f = f 0 + sumN n (fun i => f (i + 1)) := by
  rw [Nat.add_comm, sumN_split]
  congr 1
  · show 0 + f 0 = f 0
    rw [Rat.zero_add]
  · exact sumN_congr fun i _ => by rw [Nat.add_comm]
theorem dot_sum : ∀ (as bs : List Rat), as.length = bs.length → dotR as bs 0 = lin as (ent bs)
  | [], bs, _ => rfl
  | a :: as, [], h => by cases h
  | a :: as, b :: bs, h => by
    show dotR as bs (0 + a * b) = _
    rw [dotR_shift, dot_sum as bs (Nat.succ.inj h)]
    unfold lin
    rw [List.length_cons, sumN_head]
    show _ + a * b = a * b + sumN as.length _
    rw [Rat.add_comm]
    rfl
theorem fval_lin {f : List Rat × Rat} {p : List Rat} (h : f.1.length = p.length) : fval f p = lin f.1 (ent p) + f.2 := by
  unfold fval
  rw [dot_sum _ _ h]
def qF (sq : List (List Rat)) (n : Nat) (X : Nat → Rat) : Rat := sumN n fun i => sumN n fun j => ent (sq.getD i []) j * X i * X j
/-- the change of first order -/
def gF (sq : List (List Rat)) (n : Nat) (X d : Nat → Rat) : Rat := sumN n fun i => d i * sumN n fun j => (ent (sq.getD i []) j + ent (sq.getD j []) i) * X j
structure QSh (n : Nat) (sq : List (List Rat)) (ln : List Rat) : Prop where
  sl : sq.length = n
  sr : ∀ r ∈ sq, r.length = n
  ll : ln.length = n
def qV (sq : List (List Rat)) (ln : List Rat) (c : Rat) (n : Nat) (X : Nat → Rat) : Rat := qF sq n X + lin ln X + c
theorem lin_congr {r : List Rat} {X Y : Nat → Rat} (h : ∀ i, i < r.length → X i = Y i) : lin r X = lin r Y := sumN_congr fun i hi => by rw [h i hi]
theorem lin_line (r : List Rat) (X d : Nat → Rat) (t : Rat) : lin r (fun i => X i + t * d i) = lin r X + t * lin r d := by
  unfold lin
  rw [← sumN_mul, ← sumN_add]
  exact sumN_congr fun i _ => by grind
theorem lin_smul (r : List Rat) (d : Nat → Rat) (t : Rat) : lin r (fun i => t * d i) = t * lin r d := by
  unfold lin
  rw [← sumN_mul]
  exact sumN_congr fun i _ => by grind
theorem lin_sub (r : List Rat) (X Y : Nat → Rat) : lin r (fun i => X i - Y i) = lin r X - lin r Y := by
  have := sumN_add r.length (fun i => ent r i * (X i - Y i)) (fun i => ent r i * Y i)
  rw [sumN_congr (g := fun i => ent r i * X i) (fun i _ => by grind)] at this
  unfold lin
  rw [this]
  grind
theorem qF_congr {sq : List (List Rat)} {n : Nat} {X Y : Nat → Rat} (h : ∀ i, i < n → X i = Y i) : qF sq n X = qF sq n Y := sumN_congr fun i hi => sumN_congr fun j hj => by rw [h i hi, h j hj]
theorem gF_swap (sq : List (List Rat)) (n : Nat) (X d : Nat → Rat) : gF sq n X d = (sumN n fun i => sumN n fun j => ent (sq.getD i []) j * d i * X j) + sumN n fun i => sumN n fun j => ent (sq.getD i []) j * X i * d j := by
  unfold gF
  rw [sumN_swap n n (fun i j => ent (sq.getD i []) j * X i * d j), ← sumN_add]
  refine sumN_congr fun i _ => ?_
  rw [← sumN_mul, ← sumN_add]
  exact sumN_congr fun j _ => by grind
theorem qF_line (sq : List (List Rat)) (n : Nat) (X d : Nat → Rat) (t : Rat) : qF sq n (fun i => X i + t * d i) = qF sq n X + t * gF sq n X d + t * t * qF sq n d := by
  rw [gF_swap]
  unfold qF
  rw [← sumN_add, ← sumN_mul, ← sumN_mul, ← sumN_add, ← sumN_add]
  refine sumN_congr fun i _ => ?_
  rw [← sumN_add, ← sumN_mul, ← sumN_mul, ← sumN_add, ← sumN_add]
  exact sumN_congr fun j _ => by grind
theorem gF_self (sq : List (List Rat)) (n : Nat) (d : Nat → Rat) : gF sq n d d = 2 * qF sq n d := by
  rw [gF_swap]
  unfold qF
  grind
theorem qV_line (sq : List (List Rat)) (ln : List Rat) (c : Rat) (n : Nat) (X d : Nat → Rat) (t : Rat) : qV sq ln c n (fun i => X i + t * d i) = qV sq ln c n X + t * (gF sq n X d + lin ln d) + t * t * qF sq n d := by
  unfold qV
  rw [qF_line, lin_line]
  grind
theorem qV_congr {sq : List (List Rat)} {ln : List Rat} {c : Rat} {n : Nat} {X Y : Nat → Rat} (hl : ln.length = n) (h : ∀ i, i < n → X i = Y i) : qV sq ln c n X = qV sq ln c n Y := by
  unfold qV
  rw [qF_congr h, lin_congr (fun i hi => h i (by omega))]
/-! ### inside, tight -/
def Ins (fs : List (List Rat × Rat)) (X : Nat → Rat) : Prop := ∀ f ∈ fs, 0 ≤ lin f.1 X + f.2
def lnA (fs : List (List Rat × Rat)) (k : Nat) : List Rat := (fs.getD k ([], 0)).1
def cnA (fs : List (List Rat × Rat)) (k : Nat) : Rat := (fs.getD k ([], 0)).2
theorem ins_iff {fs : List (List Rat × Rat)} {n : Nat} {p : List Rat} (hf : ∀ f ∈ fs, f.1.length = n) (hp : p.length = n) : insB fs p = true ↔ Ins fs (ent p) := by
  unfold insB
  rw [List.all_eq_true]
  constructor
  · intro h f hm
    rw [← fval_lin (by rw [hf f hm, hp])]
    exact of_decide_eq_true (h f hm)
  · intro h f hm
    refine decide_eq_true ?_
    rw [fval_lin (by rw [hf f hm, hp])]
    exact h f hm
/-- the first form that is met -/
theorem first_met {fs : List (List Rat × Rat)} {X e : Nat → Rat} (hX : Ins fs X) (he : ∃ f ∈ fs, lin f.1 e < 0) : ∃ t k, 0 ≤ t ∧ k < fs.length ∧ lin (lnA fs k) e < 0 ∧ lin (lnA fs k) X + cnA fs k + t * lin (lnA fs k) e = 0 ∧ ∀ f ∈ fs, 0 ≤ lin f.1 X + f.2 + t * lin f.1 e := by
  induction fs with
  | nil => obtain ⟨f, h, _⟩ := he; cases h
  | cons g fs ih =>
    have hX' : Ins fs X := fun f h => hX f (List.mem_cons_of_mem _ h)
    have hg := hX g List.mem_cons_self
    by_cases he' : ∃ f ∈ fs, lin f.1 e < 0
    · obtain ⟨t, k, t0, hk, hn, hz, hall⟩ := ih hX' he'
      by_cases c : 0 ≤ lin g.1 X + g.2 + t * lin g.1 e
      · refine ⟨t, k + 1, t0, Nat.succ_lt_succ hk, hn, hz, fun f hf => ?_⟩
        rcases List.mem_cons.mp hf with rfl | hf
        · exact c
        · exact hall f hf
      · have gn : lin g.1 e < 0 := by
          by_cases z : lin g.1 e < 0
          · exact z
          · have := Rat.mul_nonneg t0 (Rat.not_lt.mp z)
            grind
        refine ⟨-(lin g.1 X + g.2) / lin g.1 e, 0, ?_, Nat.succ_pos _, gn, ?_, fun f hf => ?_⟩
        · have : -(lin g.1 X + g.2) / lin g.1 e = (lin g.1 X + g.2) / (-lin g.1 e) := by grind
          rw [this, Rat.div_def]
          exact Rat.mul_nonneg hg (Rat.le_of_lt (Rat.inv_pos.mpr (by grind)))
        · show lin g.1 X + g.2 + -(lin g.1 X + g.2) / lin g.1 e * lin g.1 e = 0
          grind
        · have hs : -(lin g.1 X + g.2) / lin g.1 e < t := by
            have h1 : -(lin g.1 X + g.2) / lin g.1 e * (-lin g.1 e) < t * (-lin g.1 e) := by
              have : -(lin g.1 X + g.2) / lin g.1 e * (-lin g.1 e) = lin g.1 X + g.2 := by grind
              rw [this]
              grind
            exact (Rat.mul_lt_mul_right (by grind)).mp h1
          rcases List.mem_cons.mp hf with rfl | hf
          · have : lin f.1 X + f.2 + -(lin f.1 X + f.2) / lin f.1 e * lin f.1 e = 0 := by grind
            rw [this]
            exact Rat.le_refl
          · have h1 := hall f hf
            have h2 := hX' f hf
            by_cases z : lin f.1 e < 0
            · have := (Rat.mul_lt_mul_right (show 0 < -lin f.1 e by grind)).mpr hs
              grind
            · have n0 : 0 ≤ -(lin g.1 X + g.2) / lin g.1 e := by
                have : -(lin g.1 X + g.2) / lin g.1 e = (lin g.1 X + g.2) / (-lin g.1 e) := by grind
                rw [this, Rat.div_def]
                exact Rat.mul_nonneg hg (Rat.le_of_lt (Rat.inv_pos.mpr (by grind)))
              have := Rat.mul_nonneg n0 (Rat.not_lt.mp z)
              grind
    · obtain ⟨f, hf, fn⟩ := he
      have fe : f = g := by
        rcases List.mem_cons.mp hf with h | h
        · exact h
        · exact absurd ⟨f, h, fn⟩ he'
      subst fe
      refine ⟨-(lin f.1 X + f.2) / lin f.1 e, 0, ?_, Nat.succ_pos _, fn, ?_, fun f' hf' => ?_⟩
      · have : -(lin f.1 X + f.2) / lin f.1 e = (lin f.1 X + f.2) / (-lin f.1 e) := by grind
        rw [this, Rat.div_def]
        exact Rat.mul_nonneg hg (Rat.le_of_lt (Rat.inv_pos.mpr (by grind)))
      · show lin f.1 X + f.2 + -(lin f.1 X + f.2) / lin f.1 e * lin f.1 e = 0
        grind
      · rcases List.mem_cons.mp hf' with rfl | hf'
        · have : lin f'.1 X + f'.2 + -(lin f'.1 X + f'.2) / lin f'.1 e * lin f'.1 e = 0 := by grind
          rw [this]
          exact Rat.le_refl
        · have n0 : 0 ≤ -(lin f.1 X + f.2) / lin f.1 e := by
            have : -(lin f.1 X + f.2) / lin f.1 e = (lin f.1 X + f.2) / (-lin f.1 e) := by grind
            rw [this, Rat.div_def]
            exact Rat.mul_nonneg hg (Rat.le_of_lt (Rat.inv_pos.mpr (by grind)))
          have := Rat.mul_nonneg n0 (Rat.not_lt.mp fun z => he' ⟨f', hf', z⟩)
          have := hX' f' hf'
          grind
end Mp

namespace Mp
open PySem (Str CmpOp)
/-! ### the equations of a face -/
theorem ent_range {n : Nat} (f : Nat → Rat) {i : Nat} (h : i < n) : ent ((List.range n).map f) i = f i := by
  unfold ent
  rw [List.getD_eq_getElem?_getD, List.getElem?_map, List.getElem?_range h]
  rfl
theorem ent_names {α : Type} (names : List α) (d : α) (f : α → Rat) {i : Nat} (h : i < names.length) : ent (names.map f) i = f (names.getD i d) := getD_map' h
theorem lin_range (n : Nat) (f X : Nat → Rat) : lin ((List.range n).map f) X = sumN n fun i => f i * X i := by
  unfold lin
  rw [List.length_map, List.length_range]
  exact sumN_congr fun i hi => by rw [ent_range f hi]
theorem lin_names (names : List Nat) (f : Nat → Rat) (X : Nat → Rat) : lin (names.map f) X = sumN names.length fun k => f (names.getD k 0) * X k := by
  unfold lin
  rw [List.length_map]
  exact sumN_congr fun i hi => by rw [ent_names names 0 f hi]
theorem lin_zeros (m : Nat) (X : Nat → Rat) : lin (List.replicate m 0) X = 0 := by
  unfold lin
  refine sumN_zero fun i _ => ?_
  have : ent (List.replicate m 0) i = 0 := by
    unfold ent
    rw [List.getD_eq_getElem?_getD, List.getElem?_replicate]
    split <;> rfl
  rw [this, Rat.zero_mul]
theorem getD_app3 {α : Type} {d : α} {xs ys : List α} {i n : Nat} (h : xs.length = n) : (xs ++ ys).getD (n + i) d = ys.getD i d := by
  rw [List.getD_eq_getElem?_getD, List.getD_eq_getElem?_getD, List.getElem?_append_right (by omega), show n + i - xs.length = i by omega]
structure Kr (sq : List (List Rat)) (ln : List Rat) (fs : List (List Rat × Rat)) (n : Nat) (names : List Nat) (X : Nat → Rat) (z : Rat) : Prop where
  one : ∀ i, i < n → (sumN n fun j => (ent (sq.getD i []) j + ent (sq.getD j []) i) * X j) - (sumN names.length fun k => ent (lnA fs (names.getD k 0)) i * X (n + k)) - ent ln i * z = 0
  two : ∀ k, k < names.length → lin (lnA fs (names.getD k 0)) X - cnA fs (names.getD k 0) * z = 0
theorem rest_len {sq : List (List Rat)} {ln : List Rat} {fs : List (List Rat × Rat)} {n : Nat} {names : List Nat} (hf : ∀ f ∈ fs, f.1.length = n) (hk : ∀ k ∈ names, k < fs.length) : (∀ r ∈ restRows sq fs n names, r.length = n + names.length) ∧ (restRows sq fs n names).length = n + names.length ∧ (restRight ln fs n names).length = n + names.length := by
  refine ⟨fun r hr => ?_, by unfold restRows; rw [List.length_append, List.length_map, List.length_map, List.length_range], by unfold restRight; rw [List.length_append, List.length_map, List.length_map, List.length_range]⟩
  unfold restRows at hr
  rcases List.mem_append.mp hr with h | h
  · obtain ⟨i, _, rfl⟩ := List.mem_map.mp h
    rw [List.length_append, List.length_map]
    unfold slopeR
    rw [List.length_map, List.length_range]
  · obtain ⟨k, hk', rfl⟩ := List.mem_map.mp h
    rw [List.length_append, List.length_replicate, hf _ (getD_mem (hk k hk'))]
theorem ker_rest {sq : List (List Rat)} {ln : List Rat} {fs : List (List Rat × Rat)} {n : Nat} {names : List Nat} (hf : ∀ f ∈ fs, f.1.length = n) (hk : ∀ k ∈ names, k < fs.length) (hl : ln.length = n) (X : Nat → Rat) : Ker (augE (restRows sq fs n names) (restRight ln fs n names)) X ↔ Kr sq ln fs n names X (X (n + names.length)) := by
  obtain ⟨r1, r2, r3⟩ := rest_len (sq := sq) (ln := ln) hf hk
  rw [ker_aug r1 (by omega)]
  have A : ∀ i, i < n → lin ((restRows sq fs n names).getD i []) X + ent (restRight ln fs n names) i * X (n + names.length) = (sumN n fun j => (ent (sq.getD i []) j + ent (sq.getD j []) i) * X j) - (sumN names.length fun k => ent (lnA fs (names.getD k 0)) i * X (n + k)) - ent ln i * X (n + names.length) := fun i hi => by
    have e1 : (restRows sq fs n names).getD i [] = slopeR sq n i ++ names.map fun k => -ent (lnA fs k) i := by
      unfold restRows
      rw [getD_app1 (by rw [List.length_map, List.length_range]; exact hi), getD_map' (d := 0) (by rw [List.length_range]; exact hi)]
      have : (List.range n).getD i 0 = i := by rw [List.getD_eq_getElem?_getD, List.getElem?_range hi]; rfl
      rw [this]
      rfl
    have e2 : ent (restRight ln fs n names) i = -ent ln i := by
      unfold restRight
      rw [ent_app1 (by rw [List.length_map, List.length_range]; exact hi), ent_range _ hi]
    rw [e1, e2, lin_app, lin_names]
    have sl : (slopeR sq n i).length = n := by unfold slopeR; rw [List.length_map, List.length_range]
    rw [sl]
    have e3 : lin (slopeR sq n i) X = sumN n fun j => (ent (sq.getD i []) j + ent (sq.getD j []) i) * X j := by
      unfold slopeR
      rw [lin_range]
    have e4 : (sumN names.length fun k => -ent (lnA fs (names.getD k 0)) i * X (n + k)) = -(sumN names.length fun k => ent (lnA fs (names.getD k 0)) i * X (n + k)) := by
      have := sumN_mul names.length (-1) fun k => ent (lnA fs (names.getD k 0)) i * X (n + k)
      rw [sumN_congr (g := fun k => -ent (lnA fs (names.getD k 0)) i * X (n + k)) (fun k _ => by grind)] at this
      rw [this]
      grind
    rw [e3, e4]
    grind
  have B : ∀ k, k < names.length → lin ((restRows sq fs n names).getD (n + k) []) X + ent (restRight ln fs n names) (n + k) * X (n + names.length) = lin (lnA fs (names.getD k 0)) X - cnA fs (names.getD k 0) * X (n + names.length) := fun k hk' => by
    have e1 : (restRows sq fs n names).getD (n + k) [] = lnA fs (names.getD k 0) ++ List.replicate names.length 0 := by
      unfold restRows
      rw [getD_app3 (by rw [List.length_map, List.length_range]), getD_map' (d := 0) hk']
      rfl
    have e2 : ent (restRight ln fs n names) (n + k) = -cnA fs (names.getD k 0) := by
      unfold restRight
      have : ((List.range n).map fun i => -ent ln i).length = n := by rw [List.length_map, List.length_range]
      have h := ent_app2 (r := (List.range n).map fun i => -ent ln i) (s := names.map fun k => -(fs.getD k ([], 0)).2) (i := k)
      rw [this] at h
      rw [h, ent_names names 0 _ hk']
      rfl
    rw [e1, e2, lin_app, lin_zeros]
    grind
  constructor
  · intro h
    exact ⟨fun i hi => by rw [← A i hi]; exact h i (by omega), fun k hk' => by rw [← B k hk']; exact h (n + k) (by omega)⟩
  · intro h i hi
    by_cases c : i < n
    · rw [A i c]; exact h.one i c
    · have := B (i - n) (by omega)
      rw [show n + (i - n) = i by omega] at this
      rw [this]
      exact h.two (i - n) (by omega)
/-! ### independent rows, one more -/
theorem csum_lin {n : Nat} (m : List Rat) (l : List (List Rat)) (hl : ∀ r ∈ l, r.length = n) (d : Nat → Rat) : (sumN n fun c => csum m l c * d c) = sumN l.length fun i => ent m i * lin (l.getD i []) d := by
  unfold csum
  have : ∀ c, c < n → (sumN l.length fun i => ent m i * ent (l.getD i []) c) * d c = sumN l.length fun i => ent m i * (ent (l.getD i []) c * d c) := fun c _ => by
    rw [Rat.mul_comm, ← sumN_mul]
    exact sumN_congr fun i _ => by grind
  rw [sumN_congr this, sumN_swap]
  refine sumN_congr fun i hi => ?_
  rw [sumN_mul]
  unfold lin
  rw [hl _ (getD_mem hi)]
theorem ind_cons {n : Nat} {r : List Rat} {l : List (List Rat)} {d : Nat → Rat} (hl : ∀ r ∈ l, r.length = n) (hr : r.length = n) (h : Ind l) (h1 : lin r d ≠ 0) (h2 : ∀ r ∈ l, lin r d = 0) : Ind (r :: l) := by
  rw [ind_iff] at h ⊢
  intro m hm hc x hx
  cases m with
  | nil => cases hm
  | cons y m =>
    have hm' : m.length = l.length := Nat.succ.inj hm
    have key := csum_lin (n := n) (y :: m) (r :: l) (fun z hz => by
      rcases List.mem_cons.mp hz with h | h
      · rw [h]; exact hr
      · exact hl z h) d
    rw [sumN_zero (fun c _ => by rw [hc c]; grind), List.length_cons, sumN_head, sumN_zero (n := l.length) (fun i hi => by
      show ent m i * lin (l.getD i []) d = 0
      rw [h2 _ (getD_mem hi)]
      grind)] at key
    have y0 : y = 0 := by
      have : y * lin r d = 0 := by
        have e : ent (y :: m) 0 * lin ((r :: l).getD 0 []) d = y * lin r d := rfl
        rw [← e]
        grind
      rcases Rat.mul_eq_zero.mp this with z | z
      · exact z
      · exact absurd z h1
    have rest := h m hm' fun c => by
      have := hc c
      rw [csum_cons, y0] at this
      grind
    rcases List.mem_cons.mp hx with h | h
    · rw [h]; exact y0
    · exact rest x h
/-! ### ascending names -/
def Asc (names : List Nat) : Prop := names.Pairwise (· < ·)
theorem asc_ins {k : Nat} : ∀ {names : List Nat}, Asc names → k ∉ names → ∃ a b, names = a ++ b ∧ Asc (a ++ k :: b)
  | [], _, _ => ⟨[], [], rfl, List.pairwise_singleton _ _⟩
  | x :: xs, h, hk => by
    obtain ⟨h1, h2⟩ := List.pairwise_cons.mp h
    by_cases c : k < x
    · refine ⟨[], x :: xs, rfl, List.pairwise_cons.mpr ⟨fun y hy => ?_, h⟩⟩
      rcases List.mem_cons.mp hy with e | hy
      · rw [e]; exact c
      · exact Nat.lt_trans c (h1 y hy)
    · have ne : k ≠ x := fun z => hk (by rw [z]; exact List.mem_cons_self)
      obtain ⟨a, b, e1, e2⟩ := asc_ins h2 (fun z => hk (List.mem_cons_of_mem _ z))
      refine ⟨x :: a, b, by rw [e1]; rfl, List.pairwise_cons.mpr ⟨fun y hy => ?_, e2⟩⟩
      rcases List.mem_append.mp hy with hy | hy
      · exact h1 y (by rw [e1]; exact List.mem_append_left _ hy)
      · rcases List.mem_cons.mp hy with e | hy
        · omega
        · exact h1 y (by rw [e1]; exact List.mem_append_right _ hy)
end Mp

namespace Mp
open PySem (Str CmpOp)
/-! ### no point of a bounded region has less than some face's point -/
structure RSh (n : Nat) (fs : List (List Rat × Rat)) : Prop where
  len : ∀ f ∈ fs, f.1.length = n
  box : ∀ d : Nat → Rat, (∃ i, i < n ∧ d i ≠ 0) → ∃ f ∈ fs, lin f.1 d < 0
structure Fc (fs : List (List Rat × Rat)) (n : Nat) (names : List Nat) : Prop where
  asc : Asc names
  lt : ∀ k ∈ names, k < fs.length
  ind : Ind (rowsF fs names)
theorem Fc.rows {fs : List (List Rat × Rat)} {n : Nat} {names : List Nat} (R : RSh n fs) (F : Fc fs n names) : ∀ r ∈ rowsF fs names, r.length = n := fun r hr => by
  obtain ⟨k, hk, rfl⟩ := List.mem_map.mp hr
  exact R.len _ (getD_mem (F.lt k hk))
theorem Fc.le {fs : List (List Rat × Rat)} {n : Nat} {names : List Nat} (R : RSh n fs) (F : Fc fs n names) : names.length ≤ n := by
  have h1 := (ind_leads (F.rows R)).mp F.ind
  have h2 := leads_le (ech_red (F.rows R) n)
  have h3 : (rowsF fs names).length = names.length := by unfold rowsF; rw [List.length_map]
  omega
/-- a form that is met along a direction of the face -/
theorem Fc.more {fs : List (List Rat × Rat)} {n : Nat} {names : List Nat} {k : Nat} {e : Nat → Rat} (R : RSh n fs) (F : Fc fs n names) (hk : k < fs.length) (h1 : lin (lnA fs k) e ≠ 0) (h2 : ∀ j ∈ names, lin (lnA fs j) e = 0) : ∃ names', Fc fs n names' ∧ names'.length = names.length + 1 ∧ ∀ j ∈ names', j = k ∨ j ∈ names := by
  have hn : k ∉ names := fun z => h1 (h2 k z)
  obtain ⟨a, b, rfl, ha⟩ := asc_ins F.asc hn
  refine ⟨a ++ k :: b, ⟨ha, fun j hj => ?_, ?_⟩, by simp only [List.length_append, List.length_cons]; omega, fun j hj => ?_⟩
  · rcases List.mem_append.mp hj with h | h
    · exact F.lt j (List.mem_append_left _ h)
    · rcases List.mem_cons.mp h with h | h
      · rw [h]; exact hk
      · exact F.lt j (List.mem_append_right _ h)
  · have e1 : rowsF fs (a ++ k :: b) = rowsF fs a ++ lnA fs k :: rowsF fs b := by unfold rowsF; rw [List.map_append, List.map_cons]; rfl
    have e2 : rowsF fs (a ++ b) = rowsF fs a ++ rowsF fs b := by unfold rowsF; rw [List.map_append]
    rw [e1, ind_mid, ← e2]
    refine ind_cons (F.rows R) (R.len _ (getD_mem hk)) F.ind h1 fun r hr => ?_
    obtain ⟨j, hj, rfl⟩ := List.mem_map.mp hr
    exact h2 j hj
  · rcases List.mem_append.mp hj with h | h
    · exact .inr (List.mem_append_left _ h)
    · rcases List.mem_cons.mp h with h | h
      · exact .inl h
      · exact .inr (List.mem_append_right _ h)
theorem lnA_len {fs : List (List Rat × Rat)} {n k : Nat} (R : RSh n fs) (h : k < fs.length) : (lnA fs k).length = n := R.len _ (getD_mem h)
theorem sumK_zero {fs : List (List Rat × Rat)} {n : Nat} {names : List Nat} (R : RSh n fs) (F : Fc fs n names) (d u : Nat → Rat) (hd : ∀ k, k < names.length → lin (lnA fs (names.getD k 0)) d = 0) : (sumN n fun i => d i * sumN names.length fun k => ent (lnA fs (names.getD k 0)) i * u k) = 0 := by
  have : ∀ i, i < n → (d i * sumN names.length fun k => ent (lnA fs (names.getD k 0)) i * u k) = sumN names.length fun k => u k * (ent (lnA fs (names.getD k 0)) i * d i) := fun i _ => by
    rw [← sumN_mul]
    exact sumN_congr fun k _ => by grind
  rw [sumN_congr this, sumN_swap]
  refine sumN_zero fun k hk => ?_
  rw [sumN_mul]
  have h := hd k hk
  unfold lin at h
  rw [lnA_len R (F.lt _ (getD_mem hk))] at h
  rw [h, Rat.mul_zero]
/-- going on from a point of a face -/
theorem Fc.go {fs : List (List Rat × Rat)} {n : Nat} {names : List Nat} {X e : Nat → Rat} (R : RSh n fs) (F : Fc fs n names) (hX : Ins fs X) (ht : ∀ k ∈ names, lin (lnA fs k) X + cnA fs k = 0) (he : ∀ k ∈ names, lin (lnA fs k) e = 0) (hn : ∃ f ∈ fs, lin f.1 e < 0) :
    ∃ t names', 0 ≤ t ∧ (∀ f ∈ fs, 0 ≤ lin f.1 X + f.2 + t * lin f.1 e) ∧ Fc fs n names' ∧ names'.length = names.length + 1 ∧ Ins fs (fun i => X i + t * e i) ∧ ∀ k ∈ names', lin (lnA fs k) (fun i => X i + t * e i) + cnA fs k = 0 := by
  obtain ⟨t, k, t0, hk, kn, kz, hall⟩ := first_met hX hn
  obtain ⟨names', F', hl, hm⟩ := F.more R hk (by grind) he
  refine ⟨t, names', t0, hall, F', hl, fun f hf => ?_, fun j hj => ?_⟩
  · have := hall f hf
    rw [lin_line]
    grind
  · rw [lin_line]
    rcases hm j hj with rfl | h
    · grind
    · have h1 := ht j h
      have h2 := he j h
      rw [h2]
      grind
def Res (sq : List (List Rat)) (ln : List Rat) (c : Rat) (fs : List (List Rat × Rat)) (n : Nat) (v : Rat) : Prop := ∃ names p, Fc fs n names ∧ restE sq ln fs n names = some p ∧ p.length = n ∧ Ins fs (ent p) ∧ qV sq ln c n (ent p) ≤ v
theorem ins_congr {fs : List (List Rat × Rat)} {n : Nat} {X Y : Nat → Rat} (R : RSh n fs) (h : ∀ i, i < n → X i = Y i) (hX : Ins fs X) : Ins fs Y := fun f hf => by
  rw [← lin_congr (fun i hi => h i (by rw [← R.len f hf]; exact hi))]
  exact hX f hf
theorem mem_getD {names : List Nat} {k : Nat} (h : k ∈ names) : ∃ i, i < names.length ∧ names.getD i 0 = k := by
  obtain ⟨i, hi, e⟩ := List.mem_iff_getElem.mp h
  exact ⟨i, hi, by rw [List.getD_eq_getElem?_getD, List.getElem?_eq_getElem hi]; exact e⟩
theorem below_none {sq : List (List Rat)} {ln : List Rat} {c : Rat} {fs : List (List Rat × Rat)} {n : Nat} {names : List Nat} {X : Nat → Rat} (R : RSh n fs) (S : QSh n sq ln) (F : Fc fs n names) (hs : solE (restRows sq fs n names) (restRight ln fs n names) (n + names.length) = none) :
    ∃ e : Nat → Rat, (∀ k ∈ names, lin (lnA fs k) e = 0) ∧ (∃ i, i < n ∧ e i ≠ 0) ∧ ∀ t, 0 ≤ t → qV sq ln c n (fun i => X i + t * e i) ≤ qV sq ln c n X := by
  obtain ⟨r1, r2, r3⟩ := rest_len (sq := sq) (ln := ln) R.len F.lt
  obtain ⟨Y, y1, y2, f, f1, f2⟩ := sol_none r1 (by omega) hs
  have K := (ker_rest R.len F.lt S.ll Y).mp y1
  rw [y2] at K
  have hd : ∀ k, k < names.length → lin (lnA fs (names.getD k 0)) Y = 0 := fun k hk => by have := K.two k hk; grind
  by_cases hz : ∃ i, i < n ∧ Y i ≠ 0
  · have self : qF sq n Y = 0 := by
      have h1 := gF_self sq n Y
      have h2 : gF sq n Y Y = 0 := by
        unfold gF
        rw [← sumK_zero R F Y (fun k => Y (n + k)) hd]
        refine sumN_congr fun i hi => ?_
        have := K.one i hi
        congr 1
        grind
      rw [h2] at h1
      grind
    have fin : ∀ sg : Rat, sg ≠ 0 → sg * (gF sq n X Y + lin ln Y) ≤ 0 → ∃ e : Nat → Rat, (∀ k ∈ names, lin (lnA fs k) e = 0) ∧ (∃ i, i < n ∧ e i ≠ 0) ∧ ∀ t, 0 ≤ t → qV sq ln c n (fun i => X i + t * e i) ≤ qV sq ln c n X := by
      intro sg s0 hg
      refine ⟨fun i => sg * Y i, fun k hk => ?_, ?_, fun t t0 => ?_⟩
      · obtain ⟨i, hi, rfl⟩ := mem_getD hk
        rw [lin_smul, hd i hi, Rat.mul_zero]
      · obtain ⟨i, hi, h⟩ := hz
        refine ⟨i, hi, fun z => ?_⟩
        rcases Rat.mul_eq_zero.mp z with z | z
        · exact s0 z
        · exact h z
      · have e1 : (fun i => X i + t * (sg * Y i)) = fun i => X i + (t * sg) * Y i := by funext i; grind
        rw [e1, qV_line, self]
        have := Rat.mul_nonneg t0 (show 0 ≤ -(sg * (gF sq n X Y + lin ln Y)) by grind)
        grind
    by_cases hg : gF sq n X Y + lin ln Y ≤ 0
    · exact fin 1 (by decide) (by grind)
    · exact fin (-1) (by decide) (by grind)
  · exfalso
    have z0 : ∀ i, i < n → Y i = 0 := fun i hi => Classical.byContradiction fun h => hz ⟨i, hi, h⟩
    have fn : n ≤ f := by
      rcases Nat.lt_or_ge f n with h | h
      · exact absurd (z0 f h) f2
      · exact h
    have ml : ((List.range names.length).map fun k => Y (n + k)).length = (rowsF fs names).length := by unfold rowsF; rw [List.length_map, List.length_map, List.length_range]
    have := F.ind ((List.range names.length).map fun k => Y (n + k)) ml (fun i => by
      unfold csum
      have rl : (rowsF fs names).length = names.length := by unfold rowsF; rw [List.length_map]
      rw [rl]
      have e : ∀ k, k < names.length → ent ((List.range names.length).map fun k => Y (n + k)) k * ent ((rowsF fs names).getD k []) i = ent (lnA fs (names.getD k 0)) i * Y (n + k) := fun k hk => by
        rw [ent_range _ hk]
        have : (rowsF fs names).getD k [] = lnA fs (names.getD k 0) := getD_map' hk
        rw [this, Rat.mul_comm]
      rw [sumN_congr e]
      by_cases hi : i < n
      · have h1 := K.one i hi
        rw [sumN_zero (fun j hj => by rw [z0 j hj, Rat.mul_zero])] at h1
        grind
      · exact sumN_zero fun k hk => by rw [ent_out (by rw [lnA_len R (F.lt _ (getD_mem hk))]; omega), Rat.zero_mul]) (f - n) (by unfold rowsF; rw [List.length_map]; omega)
    rw [ent_range _ (by omega), show n + (f - n) = f by omega] at this
    exact f2 this
theorem hom_at {p : List Rat} {w i : Nat} (h : i < w) : hom p w i = ent p i := by unfold hom; rw [if_neg (by omega)]
/-- the point at which the quadratic rests on a face -/
structure AtP (sq : List (List Rat)) (ln : List Rat) (fs : List (List Rat × Rat)) (n : Nat) (names : List Nat) (P : Nat → Rat) : Prop where
  tight : ∀ k ∈ names, lin (lnA fs k) P + cnA fs k = 0
  rest : ∀ d : Nat → Rat, (∀ k ∈ names, lin (lnA fs k) d = 0) → gF sq n P d + lin ln d = 0
theorem at_some {sq : List (List Rat)} {ln : List Rat} {fs : List (List Rat × Rat)} {n : Nat} {names : List Nat} {p : List Rat} (R : RSh n fs) (S : QSh n sq ln) (hA : ∀ k ∈ names, k < fs.length) (hs : solE (restRows sq fs n names) (restRight ln fs n names) (n + names.length) = some p) : p.length = n + names.length ∧ AtP sq ln fs n names (ent p) := by
  obtain ⟨r1, r2, r3⟩ := rest_len (sq := sq) (ln := ln) R.len hA
  obtain ⟨pl, only⟩ := sol_only r1 hs
  have K := (ker_rest R.len hA S.ll (hom p (n + names.length))).mp ((only _ (by unfold hom; rw [if_pos rfl])).mpr fun i hi => hom_at hi)
  have hw : hom p (n + names.length) (n + names.length) = -1 := by unfold hom; rw [if_pos rfl]
  rw [hw] at K
  refine ⟨pl, fun k hk => ?_, fun d hd => ?_⟩
  · obtain ⟨i, hi, rfl⟩ := mem_getD hk
    have := K.two i hi
    rw [lin_congr (Y := ent p) (fun j hj => hom_at (by rw [lnA_len R (hA _ hk)] at hj; omega))] at this
    grind
  · have e : ∀ i, i < n → d i * (sumN n fun j => (ent (sq.getD i []) j + ent (sq.getD j []) i) * ent p j) + ent ln i * d i = d i * sumN names.length fun k => ent (lnA fs (names.getD k 0)) i * ent p (n + k) := fun i hi => by
      have := K.one i hi
      have s1 : (sumN n fun j => (ent (sq.getD i []) j + ent (sq.getD j []) i) * hom p (n + names.length) j) = sumN n fun j => (ent (sq.getD i []) j + ent (sq.getD j []) i) * ent p j := sumN_congr fun j hj => by rw [hom_at (by omega)]
      have s2 : (sumN names.length fun k => ent (lnA fs (names.getD k 0)) i * hom p (n + names.length) (n + k)) = sumN names.length fun k => ent (lnA fs (names.getD k 0)) i * ent p (n + k) := sumN_congr fun k hk => by rw [hom_at (by omega)]
      rw [s1, s2] at this
      grind
    unfold gF lin
    rw [S.ll, ← sumN_add, sumN_congr e]
    have : ∀ i, i < n → (d i * sumN names.length fun k => ent (lnA fs (names.getD k 0)) i * ent p (n + k)) = sumN names.length fun k => ent p (n + k) * (ent (lnA fs (names.getD k 0)) i * d i) := fun i _ => by
      rw [← sumN_mul]
      exact sumN_congr fun k _ => by grind
    rw [sumN_congr this, sumN_swap]
    refine sumN_zero fun k hk => ?_
    rw [sumN_mul]
    have h := hd _ (getD_mem (d := 0) hk)
    unfold lin at h
    rw [lnA_len R (hA _ (getD_mem hk))] at h
    rw [h, Rat.mul_zero]
theorem below_step {sq : List (List Rat)} {ln : List Rat} {c : Rat} {fs : List (List Rat × Rat)} {n : Nat} {names : List Nat} {X : Nat → Rat} (R : RSh n fs) (S : QSh n sq ln) (h0 : n ≠ 0) (F : Fc fs n names) (hX : Ins fs X) (ht : ∀ k ∈ names, lin (lnA fs k) X + cnA fs k = 0)
    (rec' : ∀ names' X', Fc fs n names' → names'.length = names.length + 1 → Ins fs X' → (∀ k ∈ names', lin (lnA fs k) X' + cnA fs k = 0) → qV sq ln c n X' ≤ qV sq ln c n X → Res sq ln c fs n (qV sq ln c n X)) : Res sq ln c fs n (qV sq ln c n X) := by
  have go : ∀ e : Nat → Rat, (∀ k ∈ names, lin (lnA fs k) e = 0) → (∃ f ∈ fs, lin f.1 e < 0) → (∀ t, 0 ≤ t → (∀ f ∈ fs, 0 ≤ lin f.1 X + f.2 + t * lin f.1 e) → qV sq ln c n (fun i => X i + t * e i) ≤ qV sq ln c n X) → Res sq ln c fs n (qV sq ln c n X) := by
    intro e he hn hq
    obtain ⟨t, names', t0, hall, F', hl, hi, ht'⟩ := F.go R hX ht he hn
    exact rec' names' _ F' hl hi ht' (hq t t0 hall)
  cases hs : solE (restRows sq fs n names) (restRight ln fs n names) (n + names.length) with
  | none =>
    obtain ⟨e, he, hne, hq⟩ := below_none (c := c) (X := X) R S F hs
    exact go e he (R.box e hne) fun t t0 _ => hq t t0
  | some p =>
    obtain ⟨pl, A⟩ := at_some R S F.lt hs
    have hd : ∀ k ∈ names, lin (lnA fs k) (fun i => ent p i - X i) = 0 := fun k hk => by
      rw [lin_sub]
      have h1 := A.tight k hk
      have h2 := ht k hk
      grind
    have g0 := A.rest _ hd
    have line : ∀ t : Rat, qV sq ln c n (fun i => ent p i + t * (ent p i - X i)) = qV sq ln c n (ent p) + t * t * qF sq n (fun i => ent p i - X i) := fun t => by
      rw [qV_line (d := fun i => ent p i - X i), g0]
      grind
    have qX : qV sq ln c n X = qV sq ln c n (ent p) + qF sq n (fun i => ent p i - X i) := by
      have := line (-1)
      rw [show (fun i => ent p i + -1 * (ent p i - X i)) = X by funext i; grind] at this
      rw [this]
      grind
    by_cases c1 : 0 ≤ qF sq n (fun i => ent p i - X i)
    · by_cases c2 : Ins fs (ent p)
      · have te : ∀ i, i < n → ent p i = ent (p.take n) i := fun i hi => by
          unfold ent
          rw [List.getD_eq_getElem?_getD, List.getD_eq_getElem?_getD, List.getElem?_take_of_lt hi]
        refine ⟨names, p.take n, F, ?_, by rw [List.length_take]; omega, ins_congr R te c2, ?_⟩
        · unfold restE
          rw [if_neg h0, hs]
          rfl
        · rw [← qV_congr S.ll te]
          grind
      · obtain ⟨f, hf, fn⟩ : ∃ f ∈ fs, lin f.1 (ent p) + f.2 < 0 := by
          refine Classical.byContradiction fun z => c2 fun f hf => ?_
          exact Rat.not_lt.mp fun h => z ⟨f, hf, h⟩
        have fX := hX f hf
        have fd := lin_sub f.1 (ent p) X
        refine go _ hd ⟨f, hf, by rw [fd]; grind⟩ fun t t0 hall => ?_
        have h1 := hall f hf
        have t1 : t ≤ 1 := by
          refine Rat.not_lt.mp fun z => ?_
          have := Rat.mul_nonneg (show 0 ≤ t - 1 by grind) (show 0 ≤ -(lin f.1 fun i => ent p i - X i) by grind)
          grind
        have e1 : (fun i => X i + t * (ent p i - X i)) = fun i => ent p i + (t - 1) * (ent p i - X i) := by funext i; grind
        rw [e1, line, qX]
        have := Rat.mul_nonneg (Rat.mul_nonneg t0 (show 0 ≤ 2 - t by grind)) c1
        grind
    · have hne : ∃ i, i < n ∧ (fun i => (-1 : Rat) * (ent p i - X i)) i ≠ 0 := by
        refine Classical.byContradiction fun z => c1 ?_
        have : ∀ i, i < n → (fun i => ent p i - X i) i = (fun _ => 0) i := fun i hi => by
          have : ¬ (-1 : Rat) * (ent p i - X i) ≠ 0 := fun h => z ⟨i, hi, h⟩
          have := Classical.not_not.mp this
          show ent p i - X i = 0
          grind
        rw [qF_congr this]
        unfold qF
        rw [sumN_zero (fun i _ => sumN_zero fun j _ => by grind)]
        exact Rat.le_refl
      refine go (fun i => (-1 : Rat) * (ent p i - X i)) (fun k hk => ?_) (R.box _ hne) fun t t0 _ => ?_
      · rw [lin_smul (d := fun i => ent p i - X i), hd k hk, Rat.mul_zero]
      · have e1 : (fun i => X i + t * (-1 * (ent p i - X i))) = fun i => ent p i + (-(1 + t)) * (ent p i - X i) := by funext i; grind
        rw [e1, line, qX]
        have := Rat.mul_nonneg (Rat.mul_nonneg t0 (show 0 ≤ 2 + t by grind)) (show 0 ≤ -(qF sq n (fun i => ent p i - X i)) by grind)
        grind
theorem least_below {sq : List (List Rat)} {ln : List Rat} {c : Rat} {fs : List (List Rat × Rat)} {n : Nat} (R : RSh n fs) (S : QSh n sq ln) (h0 : n ≠ 0) : ∀ (fuel : Nat) (names : List Nat) (X : Nat → Rat), n - names.length ≤ fuel → Fc fs n names → Ins fs X → (∀ k ∈ names, lin (lnA fs k) X + cnA fs k = 0) → Res sq ln c fs n (qV sq ln c n X) := by
  intro fuel
  induction fuel with
  | zero =>
    intro names X hn F hX ht
    refine below_step R S h0 F hX ht fun names' X' F' hl _ _ _ => ?_
    have := F'.le R
    omega
  | succ fuel ih =>
    intro names X hn F hX ht
    refine below_step R S h0 F hX ht fun names' X' F' hl hi ht' hq => ?_
    obtain ⟨nm, p, a1, a2, a3, a4, a5⟩ := ih names' X' (by omega) F' hi ht'
    exact ⟨nm, p, a1, a2, a3, a4, Rat.le_trans a5 hq⟩
theorem fc_nil {fs : List (List Rat × Rat)} {n : Nat} : Fc fs n [] := ⟨List.Pairwise.nil, fun k h => absurd h List.not_mem_nil, fun m _ _ i hi => absurd hi (Nat.not_lt_zero _)⟩
/-- any point of the region has at least the value at some face's point -/
theorem below {sq : List (List Rat)} {ln : List Rat} {c : Rat} {fs : List (List Rat × Rat)} {n : Nat} (R : RSh n fs) (S : QSh n sq ln) {X : Nat → Rat} (hX : Ins fs X) : Res sq ln c fs n (qV sq ln c n X) := by
  by_cases h0 : n = 0
  · subst h0
    have e : ∀ i, i < 0 → X i = ent [] i := fun i hi => absurd hi (Nat.not_lt_zero _)
    exact ⟨[], [], fc_nil, rfl, rfl, ins_congr R e hX, by rw [qV_congr S.ll e]; exact Rat.le_refl⟩
  · exact least_below R S h0 n [] X (Nat.sub_le _ _) fc_nil hX fun k hk => absurd hk List.not_mem_nil
end Mp

namespace Mp
open PySem (Str CmpOp)
/-! ### the least value is the least -/
/-! ### vertices -/
def negC (fs : List (List Rat × Rat)) (names : List Nat) : List Rat := names.map fun k => -(fs.getD k ([], 0)).2
def cornerE (fs : List (List Rat × Rat)) (n : Nat) (names : List Nat) : Option (List Rat) := (solE (rowsF fs names) (negC fs names) n).filter (insB fs)
def cornersE (fs : List (List Rat × Rat)) (n : Nat) : List (List Rat) := (chs fs.length n).filterMap (cornerE fs n)
theorem corner_from {fs : List (List Rat × Rat)} {n : Nat} {p : List Rat} (h : p ∈ cornersE fs n) : ∃ names ∈ chs fs.length n, solE (rowsF fs names) (negC fs names) n = some p ∧ insB fs p = true := by
  obtain ⟨names, hm, e⟩ := List.mem_filterMap.mp h
  unfold cornerE at e
  cases hs : solE (rowsF fs names) (negC fs names) n with
  | none => rw [hs] at e; cases e
  | some q =>
    rw [hs, Option.filter_some] at e
    split at e
    · cases e
      exact ⟨names, hm, hs, ‹_›⟩
    · cases e
/-- between points of the region -/
theorem ins_mix {fs : List (List Rat × Rat)} {m : Nat} {w : Nat → Rat} {V : Nat → Nat → Rat} (hw : ∀ k, k < m → 0 ≤ w k) (h1 : sumN m w = 1) (hV : ∀ k, k < m → Ins fs (V k)) : Ins fs fun i => sumN m fun k => w k * V k i := fun f hf => by
  have e : lin f.1 (fun i => sumN m fun k => w k * V k i) + f.2 = sumN m fun k => w k * (lin f.1 (V k) + f.2) := by
    unfold lin
    have : ∀ i, i < f.1.length → (ent f.1 i * sumN m fun k => w k * V k i) = sumN m fun k => w k * (ent f.1 i * V k i) := fun i _ => by
      rw [← sumN_mul]
      exact sumN_congr fun k _ => by grind
    rw [sumN_congr this, sumN_swap]
    have : ∀ k, k < m → w k * ((sumN f.1.length fun i => ent f.1 i * V k i) + f.2) = (sumN f.1.length fun i => w k * (ent f.1 i * V k i)) + f.2 * w k := fun k _ => by
      rw [sumN_mul]
      grind
    rw [sumN_congr this, sumN_add, sumN_mul, h1]
    grind
  rw [e]
  have : ∀ (m : Nat) (g : Nat → Rat), (∀ k, k < m → 0 ≤ g k) → 0 ≤ sumN m g := by
    intro m g
    induction m with
    | zero => intro _; exact Rat.le_refl
    | succ m ih => intro h; rw [sumN]; exact Rat.add_nonneg (ih fun k hk => h k (by omega)) (h m (by omega))
  exact this m _ fun k hk => Rat.mul_nonneg (hw k hk) (hV k hk f hf)
end Mp

namespace Mp
open PySem (Str CmpOp)
/-! ### regions with bounds, whole coefficients -/
def SmI (x : Rat) : Prop := ∃ z : Int, x = z ∧ z.natAbs ≤ 2
structure FmI (n : Nat) (f : List Rat × Rat) : Prop where
  len : f.1.length = n
  ln : ∀ x ∈ f.1, SmI x
  c : Lq 60 1080 f.2
theorem SmI.lq {x : Rat} (h : SmI x) : Lq 60 1080 x := by
  obtain ⟨z, rfl, hz⟩ := h
  exact ⟨z * 60, by rw [Rat.intCast_mul]; rfl, by omega⟩
theorem FmI.fml {n : Nat} {f : List Rat × Rat} (h : FmI n f) : FmL n f := ⟨h.len, fun x hx => (h.ln x hx).lq, h.c⟩
theorem unit_si (n i : Nat) (sg : Int) (hs : sg.natAbs ≤ 1) : (unitR n i sg).length = n ∧ ∀ x ∈ unitR n i sg, SmI x := by
  unfold unitR
  refine ⟨by rw [List.length_map, List.length_range], fun x hx => ?_⟩
  obtain ⟨j, _, rfl⟩ := List.mem_map.mp hx
  exact ⟨_, rfl, by split <;> simp <;> omega⟩
def BoxU (n i : Nat) (fs : List (List Rat × Rat)) : Prop := ∀ j, j < i → (∃ c, (unitR n j 1, c) ∈ fs) ∧ ∃ c, (unitR n j (-1), c) ∈ fs
theorem BoxU.app {n i : Nat} {fs : List (List Rat × Rat)} (h : BoxU n i fs) (gs : List (List Rat × Rat)) : BoxU n i (fs ++ gs) := fun j hj => by
  obtain ⟨⟨c, h1⟩, d, h2⟩ := h j hj
  exact ⟨⟨c, List.mem_append_left _ h1⟩, d, List.mem_append_left _ h2⟩
theorem BoxU.rev {n i : Nat} {fs : List (List Rat × Rat)} (h : BoxU n i fs) : BoxU n i fs.reverse := fun j hj => by
  obtain ⟨⟨c, h1⟩, d, h2⟩ := h j hj
  exact ⟨⟨c, List.mem_reverse.mpr h1⟩, d, List.mem_reverse.mpr h2⟩
theorem BoxU.more {n i : Nat} {fs : List (List Rat × Rat)} {a b : Rat} (h : BoxU n i fs) : BoxU n (i + 1) (fs ++ [(unitR n i 1, a), (unitR n i (-1), b)]) := fun j hj => by
  rcases Nat.lt_succ_iff_lt_or_eq.mp hj with c | c
  · exact h.app _ j c
  · subst c
    exact ⟨⟨a, List.mem_append_right _ List.mem_cons_self⟩, b, List.mem_append_right _ (List.mem_cons_of_mem _ List.mem_cons_self)⟩
section
variable {Γ : String → Option MDef} {k : Nat} {s : Strm} {Q : D → Strm → Prop}
theorem V_lawregionI (hd : Γ "_law_draw" = some d__law_draw) (hdv : Γ "_law_divisor" = some d__law_divisor) (hq : Γ "_law_q" = some d__law_q) (had : Γ "_law_add" = some d__law_add) (hn : Γ "_law_number" = some r__law_number) (hu : Γ "_law_unit" = some d__law_unit) (h2 : Γ "_law_region" = some d__law_region) {n : Nat} (hn8 : n ≤ 8) (hs : Sok s)
    (q : ∀ (fs : List (List Rat × Rat)) s', Sok s' → 2 * n ≤ fs.length → fs.length ≤ 2 * n + 2 → (∀ f ∈ fs, FmI n f) → BoxU n n fs → Q (.lst true (fs.map fun f => encFl f.1 f.2)) s') : V (callF Γ (k + 4) "_law_region" [.strm, .int (n : Nat)]) s Q := by
  refine V_call h2 rfl ?_
  simp only [d__law_region]
  have hlim : (LIM : Int) = 1000000 := rfl
  have hlim2 : LIM = 1000000 := rfl
  have hlen : (rangeD 0 ((n : Nat) : Int).toNat).length = n := by unfold rangeD; simp
  walk_at "mp nx"
  walk_at "mp nx"
  refine ⟨⟨by omega, by omega⟩, range_noOwn, ?_⟩
  generalize hN : Nxt (callF Γ (k + 3)) _ _ = N
  refine V_for (fun i e t => Sok t ∧ i ≤ n ∧ ∃ fs : List (List Rat × Rat), e = [some .strm, some (.int (n : Nat)), some (.lst true (fs.map fun f => encFl f.1 f.2)), none, none, none, none] ∧ fs.length = 2 * i ∧ BoxU n i fs ∧ ∀ f ∈ fs, FmI n f) _ 0 ⟨hs, Nat.zero_le _, [], rfl, rfl, fun j hj => absurd hj (Nat.not_lt_zero _), by simp⟩ ?_ ?_
  · rintro i x e t hx ⟨kt, hi, fs, rfl, hl, hbx, hr⟩
    obtain ⟨hj, rfl⟩ := range_get hx
    rw [Nat.zero_add] at hi hl hbx ⊢
    walk_at "mp mn"
    rw [Bdy_eq]
    simp only [Int.zero_add]
    walk_at "mp mn"
    refine V_rnum60 (k := k) hd hdv hq hn kt fun lo s1 k1 zl => ?_
    walk_at "mp nx"
    refine V_draw (k := k + 2) hd (by decide) (by decide +kernel) k1 fun v s2 k2 v0 v1 => ?_
    walk_at "mp nx"
    refine V_draw (k := k + 2) hd (by decide) (by decide +kernel) k2 fun u s3 k3 u0 u1 => ?_
    walk_at "mp nx"
    refine V_draw (k := k + 2) hd (by decide) (by decide +kernel) k3 fun w s4 k4 w0 w1 => ?_
    walk_at "mp nx"
    refine V_raddI hdv hq had (m := 12) (zl.zb (by decide) (by decide) (by decide)) (by split <;> omega) (by omega) (by omega) (by decide) ?_
    have zh : Lq 60 1080 (lo + Rat.divInt (v - if (u == 0) = true then 1 else 0) (1 + w)) := Lq.add zl (lq_div (by split <;> omega) (by omega) (by omega))
    generalize lo + Rat.divInt (v - if (u == 0) = true then 1 else 0) (1 + w) = hi at zh ⊢
    walk_at "mp nx"
    refine V_lawunit hu (by omega) (by decide) ?_
    simp only [pr]
    walk_at "mp nx"
    refine ⟨by rw [List.length_map]; omega, V_lawunit hu (by omega) (by decide) ?_⟩
    refine ⟨by rw [List.length_append, List.length_map, List.length_singleton]; omega, k4, by omega, fs ++ [(unitR n i 1, -lo), (unitR n i (-1), hi)], ?_, by rw [List.length_append, hl]; simp; omega, hbx.more, fun f hf => ?_⟩
    · rw [List.map_append, List.append_assoc]
      rfl
    · rcases List.mem_append.mp hf with h | h
      · exact hr f h
      · rcases List.mem_cons.mp h with rfl | h
        · exact ⟨(unit_si n i 1 (by decide)).1, (unit_si n i 1 (by decide)).2, zl.neg.mono (by decide)⟩
        · rw [List.mem_singleton.mp h]
          exact ⟨(unit_si n i (-1) (by decide)).1, (unit_si n i (-1) (by decide)).2, zh⟩
  · rintro e t ⟨kt, _, fs, rfl, hl, hbx, hr⟩
    rw [hlen, Nat.zero_add] at hl hbx
    rw [← hN]
    walk_at "mp nx"
    refine V_draw (k := k + 2) hd (by decide) (by decide +kernel) kt fun v s1 k1 v0 v1 => ?_
    obtain ⟨m, rfl⟩ := Int.eq_ofNat_of_zero_le v0
    walk_at "mp nx"
    simp only [Int.ofNat_eq_natCast, Int.toNat_natCast]
    refine ⟨by omega, range_noOwn, ?_⟩
    generalize hN2 : Nxt (callF Γ (k + 3)) _ _ = N2'
    refine V_for (fun i e t => Sok t ∧ ∃ fs : List (List Rat × Rat), e = [some .strm, some (.int (n : Nat)), some (.lst true (fs.map fun f => encFl f.1 f.2)), none, none, none, none] ∧ fs.length = 2 * n + i ∧ BoxU n n fs ∧ ∀ f ∈ fs, FmI n f) _ 0 ⟨k1, fs, rfl, hl, hbx, hr⟩ ?_ ?_
    · rintro i x e t hx ⟨kt, fs, rfl, hl, hbx, hr⟩
      obtain ⟨hj, rfl⟩ := range_get hx
      walk_at "mp mn"
      rw [Bdy_eq]
      simp only [Int.zero_add]
      walk_at "mp nx"
      simp only [Int.toNat_natCast]
      refine ⟨by omega, ⟨by rw [range_len]; omega, range_noOwn⟩, ?_⟩
      refine V_gather (e := pr) (P := SmI) (fun x s R hs h => ?_) _ _ _ kt fun p s4 k4 hl2 hp => ?_
      · rw [Elm_eq]
        walk_at "mp mn"
        refine V_draw (k := k + 2) hd (by decide) (by decide +kernel) hs fun v s1 k1 v0 v1 => ?_
        walk_at "mp mn"
        rw [pr_i']
        exact h _ s1 k1 ⟨_, rfl, by omega⟩
      rw [range_len] at hl2
      refine V_rnum60 (k := k) hd hdv hq hn k4 fun c s5 k5 zc => ?_
      refine ⟨by rw [List.length_map]; omega, k5, fs ++ [(p, c)], by rw [List.map_append]; rfl, by rw [List.length_append, hl]; simp; omega, hbx.app _, fun f hf => ?_⟩
      rcases List.mem_append.mp hf with h | h
      · exact hr f h
      · rw [List.mem_singleton.mp h]
        exact ⟨hl2, hp, zc.mono (by decide)⟩
    · rintro e t ⟨kt, fs, rfl, hl, hbx, hr⟩
      rw [range_len, Nat.zero_add] at hl
      rw [← hN2]
      walk_at "mp nx"
      refine V_draw (k := k + 2) hd (by decide) (by decide +kernel) kt fun v s1 k1 v0 v1 => ?_
      walk_at "mp nx"
      split
      · rw [strips_fls]
        refine ⟨noOwns_fls fs, noOwns_fls fs, ?_⟩
        rw [← List.map_reverse]
        walk_at "mp nx"
        refine q fs.reverse s1 k1 ?_ ?_ (fun f hf => hr f (List.mem_reverse.mp hf)) hbx.rev
        · rw [List.length_reverse]; omega
        · rw [List.length_reverse]; omega
      · walk_at "mp nx"
        exact q fs s1 k1 (by omega) (by omega) hr hbx
end
end Mp

namespace Mp
open PySem (Str CmpOp)
/-! ### points in order, vertices -/
def d_in_order : MDef := ⟨1, 4, (.cons (.asg (.nm 1) (.lst .nil)) (.cons (.loop (.nm 2) (.seq (.var 0)) (.cons (.asg (.nm 3) (.int 0)) (.cons (.while 100000 (.and (.cmp .Lt (.var 3) (.bi .len (.cons (.var 1) .nil))) (.call "come_before" (.cons (.ix (.var 1) (.var 3)) (.cons (.var 2) .nil)))) (.cons (.aug 3 (.int 1)) .nil) []) (.cons (.ite (.or (.cmp .Eq (.var 3) (.bi .len (.cons (.var 1) .nil))) (.cmp .NotEq (.ix (.var 1) (.var 3)) (.var 2))) (.cons (.ins 1 (.var 3) (.var 2)) .nil) .nil) .nil))) [2, 3]) (.cons (.retv 1) .nil)))⟩
def d_vertices : MDef := ⟨2, 6, (.cons (.ite (.cmp .Eq (.var 1) (.int 0)) (.cons (.ite (.call "is_inside" (.cons (.var 0) (.cons (.lst .nil) .nil))) (.cons (.ret (.lst (.cons (.lst .nil) .nil))) .nil) .nil) (.cons (.ret (.lst .nil)) .nil)) .nil) (.cons (.asg (.nm 2) (.lst .nil)) (.cons (.loop (.nm 3) (.seq (.call "choices" (.cons (.bi .len (.cons (.var 0) .nil)) (.cons (.var 1) .nil)))) (.cons (.asg (.nm 4) (.call "solve" (.cons (.lc (.nm 5) (.seq (.var 3)) .nop (.bi .list (.cons (.ix (.ix (.var 0) (.var 5)) (.int 0)) .nil))) (.cons (.lc (.nm 5) (.seq (.var 3)) .nop (.neg (.ix (.ix (.var 0) (.var 5)) (.int 1)))) .nil)))) (.cons (.ite (.and (.cmp .IsNot (.var 4) .non) (.call "is_inside" (.cons (.var 0) (.cons (.var 4) .nil)))) (.cons (.appm 2 4) .nil) .nil) .nil)) [3, 4]) (.cons (.frz 2) (.cons (.ret (.call "in_order" (.cons (.var 2) .nil))) .nil)))))⟩
def d_is_empty : MDef := ⟨2, 2, (.cons (.ret (.not (.call "vertices" (.cons (.var 0) (.cons (.var 1) .nil))))) .nil)⟩
def atE : List (List Rat) → List Rat → Nat
  | [], _ => 0
  | q :: qs, p => if befE q p = true then atE qs p + 1 else 0
def insE (found : List (List Rat)) (p : List Rat) : List (List Rat) :=
  if atE found p = found.length ∨ found.getD (atE found p) [] ≠ p then found.take (atE found p) ++ p :: found.drop (atE found p) else found
def ordE (pts : List (List Rat)) : List (List Rat) := pts.foldl insE []
theorem atE_le : ∀ (found : List (List Rat)) (p : List Rat), atE found p ≤ found.length
  | [], _ => Nat.le_refl _
  | q :: qs, p => by
    have := atE_le qs p
    unfold atE
    split <;> simp only [List.length_cons] <;> omega
theorem mem_insE {found : List (List Rat)} {p x : List Rat} : x ∈ insE found p ↔ x = p ∨ x ∈ found := by
  unfold insE
  split
  · have e : found = found.take (atE found p) ++ found.drop (atE found p) := (List.take_append_drop _ _).symm
    constructor
    · intro h
      rcases List.mem_append.mp h with h | h
      · exact .inr (List.mem_of_mem_take h)
      · rcases List.mem_cons.mp h with h | h
        · exact .inl h
        · exact .inr (List.mem_of_mem_drop h)
    · intro h
      rcases h with h | h
      · rw [h]; exact List.mem_append_right _ List.mem_cons_self
      · rw [e] at h
        rcases List.mem_append.mp h with h | h
        · exact List.mem_append_left _ h
        · exact List.mem_append_right _ (List.mem_cons_of_mem _ h)
  · rename_i h
    have h1 : atE found p ≠ found.length := fun z => h (.inl z)
    have h2 : found.getD (atE found p) [] = p := Classical.not_not.mp fun z => h (.inr z)
    have hm : p ∈ found := by
      rw [← h2]
      exact getD_mem (by have := atE_le found p; omega)
    exact ⟨fun h => .inr h, fun h => h.elim (fun e => by rw [e]; exact hm) id⟩
theorem mem_ordE {pts : List (List Rat)} {x : List Rat} : x ∈ ordE pts ↔ x ∈ pts := by
  have h : ∀ (pts f : List (List Rat)), x ∈ pts.foldl insE f ↔ x ∈ pts ∨ x ∈ f := by
    intro pts
    induction pts with
    | nil => intro f; exact ⟨fun h => .inr h, fun h => h.elim (fun h => absurd h List.not_mem_nil) id⟩
    | cons p pts ih =>
      intro f
      rw [List.foldl_cons, ih, mem_insE, List.mem_cons]
      constructor
      · rintro (h | h | h)
        · exact .inl (.inr h)
        · exact .inl (.inl h)
        · exact .inr h
      · rintro ((h | h) | h)
        · exact .inr (.inl h)
        · exact .inl h
        · exact .inr (.inr h)
  unfold ordE
  rw [h pts []]
  exact ⟨fun h => h.elim id fun h => absurd h List.not_mem_nil, .inl⟩
theorem insE_len (found : List (List Rat)) (p : List Rat) : (insE found p).length ≤ found.length + 1 := by
  unfold insE
  split
  · rw [List.length_append, List.length_cons, List.length_take, List.length_drop]
    have := atE_le found p
    omega
  · omega
theorem ordE_len (pts : List (List Rat)) : (ordE pts).length ≤ pts.length := by
  have h : ∀ (pts f : List (List Rat)), (pts.foldl insE f).length ≤ pts.length + f.length := by
    intro pts
    induction pts with
    | nil => intro f; simp
    | cons p pts ih =>
      intro f
      have h1 := ih (insE f p)
      have h2 := insE_len f p
      rw [List.foldl_cons, List.length_cons]
      omega
  have := h pts []
  unfold ordE
  simpa using this
/-! comparing points -/
theorem eqvs_rats : ∀ xs ys : List Rat, D.eqvs (xs.map .rat) (ys.map .rat) = some (decide (xs = ys)) := eqvs_dec (f := D.rat) fun x y => by
  show some (x == y) = _
  rfl
theorem cmps_rats (n : Nat) : ∀ xs ys : List Rat, cmpsC (deepC n) (xs.map .rat) (ys.map .rat) = true
  | [], _ => by unfold cmpsC; rfl
  | _ :: _, [] => by unfold cmpsC; rfl
  | x :: xs, y :: ys => by
    have h : deepC n (.rat x) (.rat y) = true := by cases n <;> rfl
    show (deepC n (.rat x) (.rat y) && (match some (x == y) with | some true => cmpsC (deepC n) (xs.map .rat) (ys.map .rat) | some false => true | none => false)) = true
    rw [h, cmps_rats n xs ys]
    cases x == y <;> rfl
theorem cmpNe_rats (o o' : Bool) (xs ys : List Rat) : cmpD .NotEq (.lst o (xs.map .rat)) (.lst o' (ys.map .rat)) = pure (!decide (xs = ys)) := by
  show (do guardM (canC true _ _ = true); let r ← ofO (D.eqv (.lst o (xs.map .rat)) (.lst o' (ys.map .rat))); pure (!r)) = (pure _ : M Bool)
  have h : canC true (.lst o (xs.map .rat)) (.lst o' (ys.map .rat)) = true := by
    have : topC true (.lst o (xs.map .rat)) (.lst o' (ys.map .rat)) = true := by
      show ((xs.map D.rat).length != (ys.map D.rat).length || cmpsC (deepC 4) (xs.map .rat) (ys.map .rat)) = true
      rw [cmps_rats, Bool.or_true]
    unfold canC
    rw [this, Bool.or_true]
  have e : D.eqv (.lst o (xs.map .rat)) (.lst o' (ys.map .rat)) = some (decide (xs = ys)) := by
    show (if (xs.map D.rat).length = (ys.map D.rat).length then D.eqvs (xs.map .rat) (ys.map .rat) else some false) = _
    split
    · exact eqvs_rats xs ys
    · rename_i hl
      rw [List.length_map, List.length_map] at hl
      rw [decide_eq_false (fun z => hl (by rw [z]))]
  rw [e, h]
  rfl
def encPs (pts : List (List Rat)) : List D := pts.map fun p => D.lst false (p.map .rat)
theorem encPs_noOwns (pts : List (List Rat)) : D.noOwns (encPs pts) = true := noOwns_map (fun p => by show (!false && D.noOwns (p.map .rat)) = true; rw [noOwns_rats']; rfl) pts
theorem encPs_get {pts : List (List Rat)} {i : Nat} (h : i < pts.length) : (encPs pts)[i]? = some (.lst false ((pts.getD i []).map .rat)) := by
  unfold encPs
  rw [List.getElem?_map, List.getElem?_eq_getElem h, List.getD_eq_getElem?_getD, List.getElem?_eq_getElem h]
  rfl
theorem encPs_len (pts : List (List Rat)) : (encPs pts).length = pts.length := List.length_map _
section
variable {Γ : String → Option MDef} {k : Nat} {s : Strm} {Q : D → Strm → Prop}
theorem V_in_order (hls : Γ "is_less" = some d_is_less) (hbe : Γ "come_before" = some d_come_before) (h2 : Γ "in_order" = some d_in_order) {pts : List (List Rat)} (hl : pts.length ≤ 1000) (hp : ∀ p ∈ pts, p.length ≤ 1000 ∧ ∀ x ∈ p, Sm x) (q : Q (.lst true (encPs (ordE pts))) s) : V (callF Γ (k + 3) "in_order" [.lst false (encPs pts)]) s Q := by
  refine V_call h2 rfl ?_
  simp only [d_in_order]
  have hlim : (LIM : Int) = 1000000 := rfl
  have hlim2 : LIM = 1000000 := rfl
  walk_at "mp nx"
  generalize hB : Bdy (callF Γ (k + 2)) _ = B
  generalize hN : Nxt (callF Γ (k + 2)) _ _ = N
  refine ⟨encPs_noOwns pts, encPs_noOwns pts, ?_⟩
  refine V_for (fun i e t => t = s ∧ i ≤ pts.length ∧ e = [some (.lst false (encPs pts)), some (.lst true (encPs (ordE (pts.take i)))), none, none]) _ 0 ⟨rfl, Nat.zero_le _, rfl⟩ ?_ ?_
  · rintro i x e t hx ⟨rfl, hi, rfl⟩
    unfold encPs at hx
    rw [List.getElem?_map] at hx
    obtain ⟨p, hpi, rfl⟩ := Option.map_eq_some_iff.mp hx
    have hil := (List.getElem?_eq_some_iff.mp hpi).1
    have hpm := List.mem_of_getElem? hpi
    obtain ⟨pl, ps⟩ := hp p hpm
    rw [Nat.zero_add] at hi ⊢
    have hst : ordE (pts.take (i + 1)) = insE (ordE (pts.take i)) p := by
      unfold ordE
      rw [List.take_succ, hpi, List.foldl_append]
      rfl
    rw [hst]
    have fm : ∀ x ∈ ordE (pts.take i), x.length ≤ 1000 ∧ ∀ y ∈ x, Sm y := fun x hx => hp x (List.mem_of_mem_take (mem_ordE.mp hx))
    have fl : (ordE (pts.take i)).length ≤ 1000 := by
      have := ordE_len (pts.take i)
      rw [List.length_take] at this
      omega
    generalize ordE (pts.take i) = found at fm fl ⊢
    walk_at "mp mn"
    rw [← congrFun hB, Bdy_eq]
    walk_at "mp nx"
    generalize hT : Tst (callF Γ (k + 2)) _ = T
    generalize hI : Bdy (callF Γ (k + 2)) _ = I
    have key : ∀ (M : Fl → Strm → Prop) (m fuel j : Nat), found.length - j = m → j ≤ found.length → found.length - j + 1 ≤ fuel → M (.nx [some (.lst false (encPs pts)), some (.lst true (encPs found)), some (.lst false (p.map .rat)), some (.int ((j + atE (found.drop j) p : Nat) : Int))]) t →
        V (whileL T I [] fuel [some (.lst false (encPs pts)), some (.lst true (encPs found)), some (.lst false (p.map .rat)), some (.int (j : Nat))]) t M := by
      intro M m
      induction m with
      | zero =>
        intro fuel j hm hj hf h
        obtain ⟨fuel, rfl⟩ : ∃ g, fuel = g + 1 := ⟨fuel - 1, by omega⟩
        have ej : j = found.length := by omega
        subst ej
        rw [List.drop_length] at h
        rw [whileL, ← congrFun hT, Tst_eq]
        walk_at "mp nx"
        refine ⟨encPs_noOwns found, ?_⟩
        rw [encPs_len]
        walk_at "mp nx"
        rw [if_neg (by simp)]
        exact h
      | succ m ih =>
        intro fuel j hm hj hf h
        obtain ⟨fuel, rfl⟩ : ∃ g, fuel = g + 1 := ⟨fuel - 1, by omega⟩
        have hjl : j < found.length := by omega
        obtain ⟨ql, qs⟩ := fm _ (getD_mem (d := []) hjl)
        have hdr : found.drop j = found.getD j [] :: found.drop (j + 1) := by
          rw [List.drop_eq_getElem_cons hjl, List.getD_eq_getElem?_getD, List.getElem?_eq_getElem hjl]
          rfl
        rw [hdr] at h
        rw [whileL, ← congrFun hT, Tst_eq]
        walk_at "mp nx"
        refine ⟨encPs_noOwns found, ?_⟩
        rw [encPs_len]
        walk_at "mp nx"
        rw [if_pos (by simpa using hjl), ix_lst (encPs_get hjl)]
        walk_at "mp mn"
        rw [strips_rats', strips_rats']
        refine V_before (k := k) hls hbe ql qs ps ?_
        refine ⟨Or.inl rfl, ?_⟩
        walk_at "mp mn"
        by_cases hb : befE (found.getD j []) p = true
        · rw [if_pos hb, ← congrFun hI, Bdy_eq]
          walk_at "mp nx"
          rw [show augD (.int (j : Nat)) (.int 1) = (pure (.int ((j + 1 : Nat) : Int)) : Mp.M D) from rfl]
          walk_at "mp mn"
          refine ih fuel (j + 1) (by omega) (by omega) (by omega) ?_
          have : atE (found.getD j [] :: found.drop (j + 1)) p = atE (found.drop (j + 1)) p + 1 := if_pos hb
          rw [this] at h
          rw [show j + 1 + atE (found.drop (j + 1)) p = j + (atE (found.drop (j + 1)) p + 1) by omega]
          exact h
        · rw [if_neg hb]
          have : atE (found.getD j [] :: found.drop (j + 1)) p = 0 := if_neg hb
          rw [this] at h
          exact h
    refine key _ _ 100000 0 rfl (Nat.zero_le _) (by omega) ?_
    rw [List.drop_zero, Nat.zero_add]
    have hat := atE_le found p
    generalize hA : atE found p = a at hat ⊢
    walk_at "mp nx"
    refine ⟨encPs_noOwns found, ?_⟩
    rw [encPs_len]
    have ins : ∀ (R : D → Strm → Prop), R (.lst true (encPs (found.take a ++ p :: found.drop a))) t → V (insD (.lst true (encPs found)) (.int (a : Nat)) (.lst false (p.map .rat))) t R := fun R hR => by
      have e : insD (.lst true (encPs found)) (.int (a : Nat)) (.lst false (p.map .rat)) = (do guardM ((encPs found).length < LIM ∧ (0 : Int) ≤ (a : Nat) ∧ ((a : Nat) : Int) ≤ (encPs found).length); pure (.lst true (insAt (encPs found) (a : Nat) (.lst false (p.map .rat))))) := rfl
      rw [e]
      walk_at "mp mn"
      rw [encPs_len]
      refine ⟨⟨by omega, by omega, by omega⟩, ?_⟩
      have e2 : insAt (encPs found) (a : Nat) (.lst false (p.map .rat)) = encPs (found.take a ++ p :: found.drop a) := by
        unfold insAt encPs
        rw [Int.toNat_natCast, List.map_append, List.map_cons, List.map_take, List.map_drop]
      rw [e2]
      exact hR
    by_cases c1 : a = found.length
    · rw [if_pos (by simp [c1])]
      have ei : insE found p = found.take a ++ p :: found.drop a := by
        unfold insE
        rw [hA, if_pos (.inl c1)]
      refine ⟨noOwns_rats' p, ins _ ?_⟩
      rw [ei]
      exact ⟨rfl, by omega, rfl⟩
    · have c1' : ¬ ((a : Int) == (found.length : Int)) = true := by
        intro z
        have := eq_of_beq z
        omega
      have al : a < found.length := by omega
      rw [if_neg c1', ix_lst (encPs_get al)]
      walk_at "mp mn"
      rw [cmpNe_rats]
      walk_at "mp mn"
      by_cases c2 : found.getD a [] = p
      · rw [if_neg (by simpa using c2)]
        have ei : insE found p = found := by
          unfold insE
          rw [hA, if_neg (fun z => z.elim c1 (fun z => z c2))]
        rw [ei]
        exact ⟨by omega, rfl⟩
      · rw [if_pos (by simpa using c2)]
        have ei : insE found p = found.take a ++ p :: found.drop a := by
          unfold insE
          rw [hA, if_pos (.inr c2)]
        refine ⟨noOwns_rats' p, ins _ ?_⟩
        rw [ei]
        exact ⟨rfl, by omega, rfl⟩
  · rintro e t ⟨rfl, _, rfl⟩
    rw [encPs_len, Nat.zero_add, List.take_of_length_le (Nat.le_refl _), ← hN]
    walk_at "mp nx"
    exact q
theorem mem_cornersE_take {fs : List (List Rat × Rat)} {n : Nat} {xs : List (List Nat)} {p : Nat} {nm : List Nat} (h : xs[p]? = some nm) : (xs.take (p + 1)).filterMap (cornerE fs n) = (xs.take p).filterMap (cornerE fs n) ++ (cornerE fs n nm).toList := by
  rw [List.take_succ, h, List.filterMap_append]
  have : List.filterMap (cornerE fs n) (some nm).toList = (cornerE fs n nm).toList := by
    show List.filterMap (cornerE fs n) [nm] = _
    rw [List.filterMap_cons]
    cases cornerE fs n nm with
    | none => rfl
    | some x => rfl
  rw [this]
def ownPs (pts : List (List Rat)) : List D := pts.map fun p => D.lst true (p.map .rat)
theorem ownPs_strips (pts : List (List Rat)) : D.strips (ownPs pts) = encPs pts := strips_map (fun p => by show D.lst false (D.strips (p.map .rat)) = _; rw [strips_rats']) pts
/-- what the walk over the choices of forms asks of the sizes -/
structure VSz (fs : List (List Rat × Rat)) (n mf z : Nat) : Prop where
  fm : ∀ f ∈ fs, FmOk n mf f
  red : ∀ names ∈ chs fs.length n, Sized (augE (rowsF fs names) (negC fs names)) (n + 1) 2199
  pt : ∀ names ∈ chs fs.length n, ∀ p, solE (rowsF fs names) (negC fs names) n = some p → p.length = n ∧ ∀ x ∈ p, Zb z z x
  sz : (mf + z + 1) * (n + 1) < 4400
theorem VSz.zs {fs : List (List Rat × Rat)} {n mf z : Nat} (S : VSz fs n mf z) : z < 4399 := by
  have := S.sz
  have h : mf + z + 1 ≤ (mf + z + 1) * (n + 1) := Nat.le_mul_of_pos_right _ (Nat.succ_pos _)
  omega
theorem VSz.ms {fs : List (List Rat × Rat)} {n mf z : Nat} (S : VSz fs n mf z) : mf < 4399 := by
  have := S.sz
  have h : mf + z + 1 ≤ (mf + z + 1) * (n + 1) := Nat.le_mul_of_pos_right _ (Nat.succ_pos _)
  omega
theorem VSz.corner {fs : List (List Rat × Rat)} {n mf z : Nat} (S : VSz fs n mf z) {p : List Rat} (h : p ∈ cornersE fs n) : p.length = n ∧ ∀ x ∈ p, Zb z z x := by
  obtain ⟨names, h1, h2, _⟩ := corner_from h
  exact S.pt names h1 p h2
theorem corners_len (fs : List (List Rat × Rat)) (n : Nat) (xs : List (List Nat)) : (xs.filterMap (cornerE fs n)).length ≤ xs.length := List.length_filterMap_le _ _
end
end Mp

namespace Mp
open PySem (Str CmpOp)
/-! ### sizes of vertices -/
theorem sol_at {rows : List (List Rat)} {cs : List Rat} {w : Nat} {p : List Rat} (hr : ∀ r ∈ rows, r.length = w) (hc : cs.length = rows.length) (h : solE rows cs w = some p) : p.length = w ∧ ∀ i, i < rows.length → lin (rows.getD i []) (ent p) = ent cs i := by
  obtain ⟨pl, only⟩ := sol_only hr h
  have hw : hom p w w = -1 := by unfold hom; rw [if_pos rfl]
  refine ⟨pl, fun i hi => ?_⟩
  have := (ker_aug hr hc (hom p w)).mp ((only _ hw).mpr fun j hj => hom_at hj) i hi
  rw [hw, lin_congr (Y := ent p) (fun j hj => hom_at (by rw [hr _ (getD_mem hi)] at hj; exact hj))] at this
  grind
theorem sol_triv {rows : List (List Rat)} {cs : List Rat} {w : Nat} {p : List Rat} (hr : ∀ r ∈ rows, r.length = w) (hc : cs.length = rows.length) (h : solE rows cs w = some p) (Y : Nat → Rat) (hY : ∀ r ∈ rows, lin r Y = 0) : ∀ i, i < w → Y i = 0 := fun i hi => by
  obtain ⟨pl, only⟩ := sol_only hr h
  obtain ⟨_, at_⟩ := sol_at hr hc h
  obtain ⟨Z, hZ⟩ : ∃ Z : Nat → Rat, (fun j => if j = w then -1 else ent p j + Y j) = Z := ⟨_, rfl⟩
  have hw : Z w = -1 := by rw [← hZ]; exact if_pos rfl
  have := (only Z hw).mp ((ker_aug hr hc Z).mpr fun k hk => by
    have e : lin (rows.getD k []) Z = lin (rows.getD k []) (fun j => ent p j + 1 * Y j) := lin_congr fun j hj => by
      rw [hr _ (getD_mem hk)] at hj
      rw [← hZ]
      show (if j = w then -1 else ent p j + Y j) = _
      rw [if_neg (by omega), Rat.one_mul]
    rw [e, lin_line, at_ k hk, hY _ (getD_mem hk), hw]
    grind) i hi
  rw [← hZ] at this
  simp only [if_neg (show i ≠ w by omega)] at this
  grind
/-- another right side -/
theorem sol_other {rows : List (List Rat)} {cs ds : List Rat} {w : Nat} {p : List Rat} (hr : ∀ r ∈ rows, r.length = w) (hl : rows.length ≤ w) (hc : cs.length = rows.length) (hd : ds.length = rows.length) (h : solE rows cs w = some p) : ∃ q : List Rat, q.length = w ∧ ∀ i, i < rows.length → lin (rows.getD i []) (ent q) = ent ds i := by
  obtain ⟨q, hq⟩ := sol_some (cs := ds) hr hl fun Y hY hz f hf => by
    refine sol_triv hr hc h Y (fun r hm => ?_) f hf
    obtain ⟨i, hi, rfl⟩ := List.mem_iff_getElem.mp hm
    have := (ker_aug hr hd Y).mp hY i hi
    rw [List.getD_eq_getElem?_getD, List.getElem?_eq_getElem hi, hz] at this
    show lin rows[i] Y = 0
    have e : (some rows[i]).getD [] = rows[i] := rfl
    rw [e] at this
    grind
  exact ⟨q, sol_at hr hd hq⟩
theorem lin1 (a : Rat) (X : Nat → Rat) : lin [a] X = a * X 0 := by
  show 0 + _ = _
  rw [Rat.zero_add]; rfl
theorem lin2 (a b : Rat) (X : Nat → Rat) : lin [a, b] X = a * X 0 + b * X 1 := by
  show 0 + a * X 0 + b * X 1 = _
  rw [Rat.zero_add]
theorem lin3 (a b c : Rat) (X : Nat → Rat) : lin [a, b, c] X = a * X 0 + b * X 1 + c * X 2 := by
  show 0 + a * X 0 + b * X 1 + c * X 2 = _
  rw [Rat.zero_add]
def M48 : Nat := 442720643463713815200
theorem dvd48 : ∀ d, d ≤ 48 → d ≠ 0 → d ∣ M48 := by decide +kernel
def LV : Nat := 60 * M48
def BV : Nat := 25920 * M48
theorem lq48 {x : Rat} {d : Int} (h0 : d ≠ 0) (hd : d.natAbs ≤ 48) (m : Int) (hm : m.natAbs ≤ 25920) (e : (d : Rat) * (x * 60) = m) : Lq LV BV x := by
  obtain ⟨q, hq⟩ := dvd48 d.natAbs hd (by omega)
  have q1 : q ≤ M48 := by rw [hq]; exact Nat.le_mul_of_pos_left _ (by omega)
  have key : x * ((60 : Rat) * ((d.natAbs * q : Nat) : Int)) = ((d.sign * m * q : Int) : Rat) := by
    have e1 : ((d.natAbs : Nat) : Int) = d.sign * d := by rw [Int.mul_comm, Int.mul_sign_self]
    rw [Int.natCast_mul, e1, Rat.intCast_mul, Rat.intCast_mul, Rat.intCast_mul, Rat.intCast_mul, ← e]
    grind
  refine ⟨d.sign * m * q, ?_, ?_⟩
  · unfold LV
    rw [hq, ← key, Int.natCast_mul, Rat.intCast_mul]
    rfl
  · have s1 : d.sign.natAbs ≤ 1 := by rw [Int.natAbs_sign]; split <;> omega
    rw [Int.natAbs_mul, Int.natAbs_mul, Int.natAbs_natCast]
    unfold BV
    refine Nat.mul_le_mul (Nat.le_trans (Nat.mul_le_mul s1 hm) (by omega)) q1
theorem nat2 {a b : Int} {m n : Nat} (h : a.natAbs ≤ m) (h' : b.natAbs ≤ n) : (a * b).natAbs ≤ m * n := by rw [Int.natAbs_mul]; exact Nat.mul_le_mul h h'
theorem c60 {c : Rat} (h : Lq 60 1080 c) : ∃ m : Int, c * 60 = m ∧ m.natAbs ≤ 1080 := by
  obtain ⟨m, e, l⟩ := h
  exact ⟨m, e, l⟩
theorem cr1 {a d x : Rat} (ha : SmI a) (hd : Lq 60 1080 d) (u : ∃ y : Rat, a * y = 1) (e : a * x = d) : Lq LV BV x := by
  obtain ⟨z, rfl, lz⟩ := ha
  obtain ⟨m, em, lm⟩ := c60 hd
  obtain ⟨y, hy⟩ := u
  refine lq48 (d := z) (fun h => ?_) (by omega) m (by omega) ?_
  · rw [h, show ((0 : Int) : Rat) = 0 from rfl, Rat.zero_mul] at hy
    exact absurd hy (by decide)
  · rw [← em, ← e]
    grind
theorem cr2 {a1 a2 b1 b2 d1 d2 x1 x2 : Rat} (h1 : SmI a1) (h2 : SmI a2) (h3 : SmI b1) (h4 : SmI b2) (k1 : Lq 60 1080 d1) (k2 : Lq 60 1080 d2)
    (u : ∃ y1 y2, a1 * y1 + a2 * y2 = 1 ∧ b1 * y1 + b2 * y2 = 0) (v : ∃ y1 y2, a1 * y1 + a2 * y2 = 0 ∧ b1 * y1 + b2 * y2 = 1) (e1 : a1 * x1 + a2 * x2 = d1) (e2 : b1 * x1 + b2 * x2 = d2) : Lq LV BV x1 ∧ Lq LV BV x2 := by
  obtain ⟨p1, rfl, l1⟩ := h1
  obtain ⟨p2, rfl, l2⟩ := h2
  obtain ⟨q1, rfl, l3⟩ := h3
  obtain ⟨q2, rfl, l4⟩ := h4
  obtain ⟨m1, f1, n1⟩ := c60 k1
  obtain ⟨m2, f2, n2⟩ := c60 k2
  obtain ⟨y1, y2, g1, g2⟩ := u
  obtain ⟨z1, z2, g3, g4⟩ := v
  have det : ((p1 * q2 - p2 * q1 : Int) : Rat) = (p1 : Rat) * q2 - p2 * q1 := by rw [Rat.intCast_sub, Rat.intCast_mul, Rat.intCast_mul]
  have d0 : p1 * q2 - p2 * q1 ≠ 0 := by
    intro h
    rw [h] at det
    have : ((p1 : Rat) * q2 - p2 * q1) * (y1 * z2 - z1 * y2) = 1 := by
      have : ((p1 : Rat) * q2 - p2 * q1) * (y1 * z2 - z1 * y2) = ((p1 : Rat) * y1 + p2 * y2) * ((q1 : Rat) * z1 + q2 * z2) - ((p1 : Rat) * z1 + p2 * z2) * ((q1 : Rat) * y1 + q2 * y2) := by grind
      rw [this, g1, g2, g3, g4]
      grind
    rw [← det, show ((0 : Int) : Rat) = 0 from rfl, Rat.zero_mul] at this
    exact absurd this (by decide)
  have t1 := nat2 l1 l4
  have t2 := nat2 l2 l3
  have s1 := nat2 n1 l4
  have s2 := nat2 l2 n2
  have s3 := nat2 l1 n2
  have s4 := nat2 n1 l3
  refine ⟨lq48 d0 (by omega) (m1 * q2 - p2 * m2) (by omega) ?_, lq48 d0 (by omega) (p1 * m2 - m1 * q1) (by omega) ?_⟩
  · rw [det, Rat.intCast_sub, Rat.intCast_mul, Rat.intCast_mul, ← f1, ← f2, ← e1, ← e2]
    grind
  · rw [det, Rat.intCast_sub, Rat.intCast_mul, Rat.intCast_mul, ← f1, ← f2, ← e1, ← e2]
    grind
theorem det3 (a1 a2 a3 b1 b2 b3 c1 c2 c3 x1 x2 x3 y1 y2 y3 z1 z2 z3 : Rat) :
    (a1 * (b2 * c3 - b3 * c2) - a2 * (b1 * c3 - b3 * c1) + a3 * (b1 * c2 - b2 * c1)) * (x1 * (y2 * z3 - y3 * z2) - x2 * (y1 * z3 - y3 * z1) + x3 * (y1 * z2 - y2 * z1)) =
    (a1 * x1 + a2 * x2 + a3 * x3) * ((b1 * y1 + b2 * y2 + b3 * y3) * (c1 * z1 + c2 * z2 + c3 * z3) - (b1 * z1 + b2 * z2 + b3 * z3) * (c1 * y1 + c2 * y2 + c3 * y3))
    - (a1 * y1 + a2 * y2 + a3 * y3) * ((b1 * x1 + b2 * x2 + b3 * x3) * (c1 * z1 + c2 * z2 + c3 * z3) - (b1 * z1 + b2 * z2 + b3 * z3) * (c1 * x1 + c2 * x2 + c3 * x3))
    + (a1 * z1 + a2 * z2 + a3 * z3) * ((b1 * x1 + b2 * x2 + b3 * x3) * (c1 * y1 + c2 * y2 + c3 * y3) - (b1 * y1 + b2 * y2 + b3 * y3) * (c1 * x1 + c2 * x2 + c3 * x3)) := by grind
theorem nat3 {a b c : Int} {m n k : Nat} (h : a.natAbs ≤ m) (h' : b.natAbs ≤ n) (h'' : c.natAbs ≤ k) : (a * b * c).natAbs ≤ m * n * k := nat2 (nat2 h h') h''
theorem cr3 {a1 a2 a3 b1 b2 b3 c1 c2 c3 d1 d2 d3 x1 x2 x3 : Rat} (h1 : SmI a1) (h2 : SmI a2) (h3 : SmI a3) (h4 : SmI b1) (h5 : SmI b2) (h6 : SmI b3) (h7 : SmI c1) (h8 : SmI c2) (h9 : SmI c3) (k1 : Lq 60 1080 d1) (k2 : Lq 60 1080 d2) (k3 : Lq 60 1080 d3)
    (u : ∃ y1 y2 y3, a1 * y1 + a2 * y2 + a3 * y3 = 1 ∧ b1 * y1 + b2 * y2 + b3 * y3 = 0 ∧ c1 * y1 + c2 * y2 + c3 * y3 = 0) (v : ∃ y1 y2 y3, a1 * y1 + a2 * y2 + a3 * y3 = 0 ∧ b1 * y1 + b2 * y2 + b3 * y3 = 1 ∧ c1 * y1 + c2 * y2 + c3 * y3 = 0) (w : ∃ y1 y2 y3, a1 * y1 + a2 * y2 + a3 * y3 = 0 ∧ b1 * y1 + b2 * y2 + b3 * y3 = 0 ∧ c1 * y1 + c2 * y2 + c3 * y3 = 1)
    (e1 : a1 * x1 + a2 * x2 + a3 * x3 = d1) (e2 : b1 * x1 + b2 * x2 + b3 * x3 = d2) (e3 : c1 * x1 + c2 * x2 + c3 * x3 = d3) : Lq LV BV x1 ∧ Lq LV BV x2 ∧ Lq LV BV x3 := by
  obtain ⟨p1, rfl, l1⟩ := h1
  obtain ⟨p2, rfl, l2⟩ := h2
  obtain ⟨p3, rfl, l3⟩ := h3
  obtain ⟨q1, rfl, l4⟩ := h4
  obtain ⟨q2, rfl, l5⟩ := h5
  obtain ⟨q3, rfl, l6⟩ := h6
  obtain ⟨r1, rfl, l7⟩ := h7
  obtain ⟨r2, rfl, l8⟩ := h8
  obtain ⟨r3, rfl, l9⟩ := h9
  obtain ⟨m1, f1, n1⟩ := c60 k1
  obtain ⟨m2, f2, n2⟩ := c60 k2
  obtain ⟨m3, f3, n3⟩ := c60 k3
  obtain ⟨y1, y2, y3, g1, g2, g3⟩ := u
  obtain ⟨z1, z2, z3, g4, g5, g6⟩ := v
  obtain ⟨t1, t2, t3, g7, g8, g9⟩ := w
  have cast : ∀ a1 a2 a3 b1 b2 b3 c1 c2 c3 : Int, ((a1 * b2 * c3 - a1 * b3 * c2 - a2 * b1 * c3 + a2 * b3 * c1 + a3 * b1 * c2 - a3 * b2 * c1 : Int) : Rat) = (a1 : Rat) * ((b2 : Rat) * c3 - b3 * c2) - a2 * ((b1 : Rat) * c3 - b3 * c1) + a3 * ((b1 : Rat) * c2 - b2 * c1) := fun a1 a2 a3 b1 b2 b3 c1 c2 c3 => by
    simp only [Rat.intCast_sub, Rat.intCast_add, Rat.intCast_mul]
    grind
  have siz : ∀ {a1 a2 a3 b1 b2 b3 c1 c2 c3 : Int} {A B C : Nat}, a1.natAbs ≤ A → a2.natAbs ≤ A → a3.natAbs ≤ A → b1.natAbs ≤ B → b2.natAbs ≤ B → b3.natAbs ≤ B → c1.natAbs ≤ C → c2.natAbs ≤ C → c3.natAbs ≤ C → (a1 * b2 * c3 - a1 * b3 * c2 - a2 * b1 * c3 + a2 * b3 * c1 + a3 * b1 * c2 - a3 * b2 * c1).natAbs ≤ 6 * (A * B * C) := by
    intro a1 a2 a3 b1 b2 b3 c1 c2 c3 A B C i1 i2 i3 j1 j2 j3 o1 o2 o3
    have w1 := nat3 i1 j2 o3
    have w2 := nat3 i1 j3 o2
    have w3 := nat3 i2 j1 o3
    have w4 := nat3 i2 j3 o1
    have w5 := nat3 i3 j1 o2
    have w6 := nat3 i3 j2 o1
    omega
  have det := cast p1 p2 p3 q1 q2 q3 r1 r2 r3
  have d0 : p1 * q2 * r3 - p1 * q3 * r2 - p2 * q1 * r3 + p2 * q3 * r1 + p3 * q1 * r2 - p3 * q2 * r1 ≠ 0 := by
    intro h
    rw [h] at det
    have id := det3 p1 p2 p3 q1 q2 q3 r1 r2 r3 y1 y2 y3 z1 z2 z3 t1 t2 t3
    rw [g1, g2, g3, g4, g5, g6, g7, g8, g9, ← det, show ((0 : Int) : Rat) = 0 from rfl, Rat.zero_mul] at id
    exact absurd id (by decide +kernel)
  have s0 := siz l1 l2 l3 l4 l5 l6 l7 l8 l9
  have row : ∀ x y : Rat, x * 60 = y → x = y / 60 := fun x y h => by grind
  -- columns replaced by the right side
  have A1 := cast m1 p2 p3 m2 q2 q3 m3 r2 r3
  have A2 := cast p1 m1 p3 q1 m2 q3 r1 m3 r3
  have A3 := cast p1 p2 m1 q1 q2 m2 r1 r2 m3
  have big : ∀ {a b c : Int}, a.natAbs ≤ 2 → a.natAbs ≤ 1080 := fun h => by omega
  have S1 : (m1 * q2 * r3 - m1 * q3 * r2 - p2 * m2 * r3 + p2 * q3 * m3 + p3 * m2 * r2 - p3 * q2 * m3).natAbs ≤ 25920 := by
    have w1 := nat3 n1 l5 l9
    have w2 := nat3 n1 l6 l8
    have w3 := nat3 l2 n2 l9
    have w4 := nat3 l2 l6 n3
    have w5 := nat3 l3 n2 l8
    have w6 := nat3 l3 l5 n3
    omega
  have S2 : (p1 * m2 * r3 - p1 * q3 * m3 - m1 * q1 * r3 + m1 * q3 * r1 + p3 * q1 * m3 - p3 * m2 * r1).natAbs ≤ 25920 := by
    have w1 := nat3 l1 n2 l9
    have w2 := nat3 l1 l6 n3
    have w3 := nat3 n1 l4 l9
    have w4 := nat3 n1 l6 l7
    have w5 := nat3 l3 l4 n3
    have w6 := nat3 l3 n2 l7
    omega
  have S3 : (p1 * q2 * m3 - p1 * m2 * r2 - p2 * q1 * m3 + p2 * m2 * r1 + m1 * q1 * r2 - m1 * q2 * r1).natAbs ≤ 25920 := by
    have w1 := nat3 l1 l5 n3
    have w2 := nat3 l1 n2 l8
    have w3 := nat3 l2 l4 n3
    have w4 := nat3 l2 n2 l7
    have w5 := nat3 n1 l4 l8
    have w6 := nat3 n1 l5 l7
    omega
  refine ⟨lq48 d0 (by omega) _ S1 ?_, lq48 d0 (by omega) _ S2 ?_, lq48 d0 (by omega) _ S3 ?_⟩
  · rw [det, A1, ← f1, ← f2, ← f3, ← e1, ← e2, ← e3]
    grind
  · rw [det, A2, ← f1, ← f2, ← f3, ← e1, ← e2, ← e3]
    grind
  · rw [det, A3, ← f1, ← f2, ← f3, ← e1, ← e2, ← e3]
    grind
theorem corner_at {n : Nat} {R : List (List Rat)} {c p : List Rat} (h0 : n ≠ 0) (hn : n ≤ 3) (hr : ∀ r ∈ R, r.length = n) (hrl : R.length = n) (hrs : ∀ r ∈ R, ∀ x ∈ r, SmI x) (hcl : c.length = n) (hcs : ∀ x ∈ c, Lq 60 1080 x) (pl : p.length = n) (at_ : ∀ i, i < n → lin (R.getD i []) (ent p) = ent c i)
    (oth : ∀ ds : List Rat, ds.length = n → ∃ q : List Rat, q.length = n ∧ ∀ i, i < n → lin (R.getD i []) (ent q) = ent ds i) : ∀ x ∈ p, Lq LV BV x := by
  have hn3 : n = 1 ∨ n = 2 ∨ n = 3 := by omega
  rcases hn3 with rfl | rfl | rfl
  · obtain ⟨r1, rfl⟩ := List.length_eq_one_iff.mp hrl
    obtain ⟨a, rfl⟩ := List.length_eq_one_iff.mp (hr r1 List.mem_cons_self)
    obtain ⟨x, rfl⟩ := List.length_eq_one_iff.mp pl
    obtain ⟨d, rfl⟩ := List.length_eq_one_iff.mp hcl
    have e1 := at_ 0 (by decide)
    rw [show ([[a]] : List (List Rat)).getD 0 [] = [a] from rfl, lin1] at e1
    obtain ⟨y, _, hy⟩ := oth [1] rfl
    have hy := hy 0 (by decide)
    rw [show ([[a]] : List (List Rat)).getD 0 [] = [a] from rfl, lin1] at hy
    intro z hz
    rw [List.mem_singleton.mp hz]
    exact cr1 (hrs _ List.mem_cons_self a List.mem_cons_self) (hcs d List.mem_cons_self) ⟨_, hy⟩ e1
  · have len2 : ∀ {α : Type} {xs : List α}, xs.length = 2 → ∃ a b, xs = [a, b] := fun {α xs} h => by
      match xs, h with
      | [a, b], _ => exact ⟨a, b, rfl⟩
    obtain ⟨r1, r2, rfl⟩ := len2 hrl
    obtain ⟨a1, a2, rfl⟩ := len2 (hr r1 List.mem_cons_self)
    obtain ⟨b1, b2, rfl⟩ := len2 (hr r2 (List.mem_cons_of_mem _ List.mem_cons_self))
    obtain ⟨x1, x2, rfl⟩ := len2 pl
    obtain ⟨d1, d2, rfl⟩ := len2 hcl
    have two : ∀ q : List Rat, ∀ ds : List Rat, (∀ i, i < 2 → lin (([[a1, a2], [b1, b2]] : List (List Rat)).getD i []) (ent q) = ent ds i) → a1 * ent q 0 + a2 * ent q 1 = ent ds 0 ∧ b1 * ent q 0 + b2 * ent q 1 = ent ds 1 := fun q ds h => by
      have h1 := h 0 (by decide)
      have h2 := h 1 (by decide)
      rw [show ([[a1, a2], [b1, b2]] : List (List Rat)).getD 0 [] = [a1, a2] from rfl, lin2] at h1
      rw [show ([[a1, a2], [b1, b2]] : List (List Rat)).getD 1 [] = [b1, b2] from rfl, lin2] at h2
      exact ⟨h1, h2⟩
    obtain ⟨e1, e2⟩ := two _ _ at_
    obtain ⟨y, _, hy⟩ := oth [1, 0] rfl
    obtain ⟨z, _, hz⟩ := oth [0, 1] rfl
    have ra := hrs _ List.mem_cons_self
    have rb := hrs _ (List.mem_cons_of_mem _ List.mem_cons_self)
    have m2 : ∀ {a b : Rat}, b ∈ [a, b] := List.mem_cons_of_mem _ List.mem_cons_self
    obtain ⟨k1, k2⟩ := cr2 (ra _ List.mem_cons_self) (ra _ m2) (rb _ List.mem_cons_self) (rb _ m2) (hcs _ List.mem_cons_self) (hcs _ m2) ⟨_, _, two _ _ hy⟩ ⟨_, _, two _ _ hz⟩ e1 e2
    intro x hx
    simp only [List.mem_cons, List.not_mem_nil, or_false] at hx
    rcases hx with rfl | rfl
    · exact k1
    · exact k2
  · have len3 : ∀ {α : Type} {xs : List α}, xs.length = 3 → ∃ a b c, xs = [a, b, c] := fun {α xs} h => by
      match xs, h with
      | [a, b, c], _ => exact ⟨a, b, c, rfl⟩
    obtain ⟨r1, r2, r3, rfl⟩ := len3 hrl
    obtain ⟨a1, a2, a3, rfl⟩ := len3 (hr r1 (by simp))
    obtain ⟨b1, b2, b3, rfl⟩ := len3 (hr r2 (by simp))
    obtain ⟨c1, c2, c3, rfl⟩ := len3 (hr r3 (by simp))
    obtain ⟨x1, x2, x3, rfl⟩ := len3 pl
    obtain ⟨d1, d2, d3, rfl⟩ := len3 hcl
    have tri : ∀ q : List Rat, ∀ ds : List Rat, (∀ i, i < 3 → lin (([[a1, a2, a3], [b1, b2, b3], [c1, c2, c3]] : List (List Rat)).getD i []) (ent q) = ent ds i) → a1 * ent q 0 + a2 * ent q 1 + a3 * ent q 2 = ent ds 0 ∧ b1 * ent q 0 + b2 * ent q 1 + b3 * ent q 2 = ent ds 1 ∧ c1 * ent q 0 + c2 * ent q 1 + c3 * ent q 2 = ent ds 2 := fun q ds h => by
      have h1 := h 0 (by decide)
      have h2 := h 1 (by decide)
      have h3 := h 2 (by decide)
      rw [show ([[a1, a2, a3], [b1, b2, b3], [c1, c2, c3]] : List (List Rat)).getD 0 [] = [a1, a2, a3] from rfl, lin3] at h1
      rw [show ([[a1, a2, a3], [b1, b2, b3], [c1, c2, c3]] : List (List Rat)).getD 1 [] = [b1, b2, b3] from rfl, lin3] at h2
      rw [show ([[a1, a2, a3], [b1, b2, b3], [c1, c2, c3]] : List (List Rat)).getD 2 [] = [c1, c2, c3] from rfl, lin3] at h3
      exact ⟨h1, h2, h3⟩
    obtain ⟨e1, e2, e3⟩ := tri _ _ at_
    obtain ⟨y, _, hy⟩ := oth [1, 0, 0] rfl
    obtain ⟨z, _, hz⟩ := oth [0, 1, 0] rfl
    obtain ⟨t, _, ht⟩ := oth [0, 0, 1] rfl
    have ra := hrs [a1, a2, a3] (by simp)
    have rb := hrs [b1, b2, b3] (by simp)
    have rc := hrs [c1, c2, c3] (by simp)
    obtain ⟨k1, k2, k3⟩ := cr3 (ra _ (by simp)) (ra _ (by simp)) (ra _ (by simp)) (rb _ (by simp)) (rb _ (by simp)) (rb _ (by simp)) (rc _ (by simp)) (rc _ (by simp)) (rc _ (by simp)) (hcs d1 (by simp)) (hcs d2 (by simp)) (hcs d3 (by simp)) ⟨_, _, _, tri _ _ hy⟩ ⟨_, _, _, tri _ _ hz⟩ ⟨_, _, _, tri _ _ ht⟩ e1 e2 e3
    intro x hx
    simp only [List.mem_cons, List.not_mem_nil, or_false] at hx
    rcases hx with rfl | rfl | rfl
    · exact k1
    · exact k2
    · exact k3
section
variable {Γ : String → Option MDef} {k : Nat} {s : Strm} {Q : D → Strm → Prop}
end
end Mp

namespace Mp
open PySem (Str CmpOp)
/-! ### points between points -/
/-- a mixture of points -/
def Mix (pts : List (List Rat)) (n : Nat) (p : List Rat) : Prop := p.length = n ∧ ∃ w : Nat → Rat, (∀ k, k < pts.length → 0 ≤ w k) ∧ sumN pts.length w = 1 ∧ ∀ i, i < n → ent p i = sumN pts.length fun k => w k * ent (pts.getD k []) i
theorem Mix.ins {fs : List (List Rat × Rat)} {n : Nat} {pts : List (List Rat)} {p : List Rat} (hf : ∀ f ∈ fs, f.1.length = n) (h : Mix pts n p) (hp : ∀ x ∈ pts, x.length = n ∧ insB fs x = true) : insB fs p = true := by
  obtain ⟨pl, w, w0, w1, e⟩ := h
  refine (ins_iff hf pl).mpr fun f hm => ?_
  have := ins_mix (V := fun k => ent (pts.getD k [])) w0 w1 (fun k hk => by
    obtain ⟨h1, h2⟩ := hp _ (getD_mem (d := []) hk)
    exact (ins_iff hf h1).mp h2) f hm
  rw [lin_congr (Y := fun i => sumN pts.length fun k => w k * ent (pts.getD k []) i) (fun i hi => e i (by rw [← hf f hm]; exact hi))]
  exact this
def VtL (n : Nat) (p : List Rat) : Prop := p.length = n ∧ ∀ x ∈ p, Lq LV BV x
theorem VtL.pt {n : Nat} {p : List Rat} (h : VtL n p) : PtL n p := ⟨h.1, LV, by decide, by decide +kernel, fun x hx => (h.2 x hx).mono (by decide +kernel)⟩
theorem cmpEq_nil (o o' : Bool) (ds : List D) : cmpD .Eq (.lst o ds) (.lst o' []) = pure ds.isEmpty := by
  show (do guardM (canC false (.lst o ds) (.lst o' []) = true); ofO (D.eqv (.lst o ds) (.lst o' []))) = (pure _ : M Bool)
  have h : canC false (.lst o ds) (.lst o' []) = true := by
    have : topC false (.lst o ds) (.lst o' []) = true := by
      show (ds.length != 0 || cmpsC (deepC 4) ds []) = true
      cases ds with
      | nil => rfl
      | cons d ds => rfl
    unfold canC
    rw [this, Bool.or_true]
  have e : D.eqv (.lst o ds) (.lst o' []) = some ds.isEmpty := by
    show (if ds.length = 0 then D.eqvs ds [] else some false) = _
    cases ds with
    | nil => rfl
    | cons d ds => rfl
  rw [h, e]
  rfl
def reprS (b : Bool) : Str := Str.ofString (if b = true then "True" else "False")
theorem reprS_plain : ∀ b, (D.str (reprS b)).plain 40 = true := by decide +kernel
theorem reprS_eq : ∀ b c, (reprS b == reprS c) = (b == c) := by decide +kernel
theorem cmpNe_repr (b c : Bool) : cmpD .NotEq (.str (Str.ofString (if b = true then "True" else "False"))) (.str (Str.ofString (if c = true then "True" else "False"))) = pure (b != c) := by
  show (do guardM (canC true (.str (reprS b)) (.str (reprS c)) = true); let r ← ofO (some (reprS b == reprS c)); pure (!r)) = (pure _ : M Bool)
  have h : canC true (.str (reprS b)) (.str (reprS c)) = true := by
    unfold canC canCmp
    rw [reprS_plain, reprS_plain]
    simp
  rw [h, reprS_eq]
  rfl
section
variable {Γ : String → Option MDef} {k : Nat} {s : Strm} {Q : D → Strm → Prop}
end
end Mp

namespace Mp
open PySem (Str CmpOp)
/-! ### vertices with rows of their own, the law's corners -/
def d_vertices4 : MDef := ⟨2, 6, (.cons (.ite (.cmp .Eq (.var 1) (.int 0)) (.cons (.ite (.call "is_inside" (.cons (.var 0) (.cons (.lst .nil) .nil))) (.cons (.ret (.lst (.cons (.lst .nil) .nil))) .nil) .nil) (.cons (.ret (.lst .nil)) .nil)) .nil) (.cons (.asg (.nm 2) (.lst .nil)) (.cons (.loop (.nm 3) (.seq (.call "choices" (.cons (.bi .len (.cons (.var 0) .nil)) (.cons (.var 1) .nil)))) (.cons (.asg (.nm 4) (.call "solve" (.cons (.lc (.nm 5) (.seq (.var 3)) .nop (.bi .list (.cons (.ix (.ix (.var 0) (.var 5)) (.int 0)) .nil))) (.cons (.lc (.nm 5) (.seq (.var 3)) .nop (.neg (.ix (.ix (.var 0) (.var 5)) (.int 1)))) .nil)))) (.cons (.ite (.and (.cmp .IsNot (.var 4) .non) (.call "is_inside" (.cons (.var 0) (.cons (.var 4) .nil)))) (.cons (.appm 2 4) .nil) .nil) .nil)) [3, 4]) (.cons (.retu "in_order" 2) .nil))))⟩
def d__law_corners : MDef := ⟨2, 9, (.cons (.ite (.cmp .Eq (.var 1) (.int 0)) (.cons (.ret (.bin .mul (.fz (.lst (.cons (.lst .nil) .nil))) (.bi .int (.cons (.call "_law_inside" (.cons (.var 0) (.cons (.lst .nil) .nil))) .nil)))) .nil) .nil) (.cons (.asg (.nm 2) (.lst .nil)) (.cons (.loop (.nm 3) (.seq (.call "_law_picks" (.cons (.bi .len (.cons (.var 0) .nil)) (.cons (.var 1) .nil)))) (.cons (.asg (.nm 4) (.lc (.nm 5) (.seq (.var 3)) .nop (.bi .list (.cons (.ix (.ix (.var 0) (.var 5)) (.int 0)) .nil)))) (.cons (.asg (.nm 6) (.call "_law_solution" (.cons (.var 4) (.cons (.lc (.nm 5) (.seq (.var 3)) .nop (.tup (.cons (.neg (.ix (.ix (.ix (.var 0) (.var 5)) (.int 1)) (.int 0))) (.cons (.ix (.ix (.ix (.var 0) (.var 5)) (.int 1)) (.int 1)) .nil)))) .nil)))) (.cons (.ite (.and (.cmp .IsNot (.var 6) .non) (.and (.call "_law_inside" (.cons (.var 0) (.cons (.var 6) .nil))) (.cmp .NotIn (.var 6) (.var 2)))) (.cons (.frz 2) (.cons (.asg (.nm 7) (.bi .len (.cons (.lc (.nm 8) (.seq (.var 2)) (.call "_law_before" (.cons (.var 8) (.cons (.var 6) .nil))) (.var 8)) .nil))) (.cons (.frz 6) (.cons (.asg (.nm 2) (.bin .add (.bin .add (.sl (.var 2) .nop (.var 7)) (.lst (.cons (.var 6) .nil))) (.sl (.var 2) (.var 7) .nop))) .nil)))) .nil) .nil))) [3, 4, 6, 7]) (.cons (.retv 2) .nil))))⟩
theorem bef_irr : ∀ p : List Rat, befE p p = false
  | [] => rfl
  | a :: as => by
    show (if a = a then befE as as else _) = false
    rw [if_pos rfl, bef_irr as]
theorem bef_cons (a b : Rat) (as bs : List Rat) : befE (a :: as) (b :: bs) = if a = b then befE as bs else decide (a < b) := rfl
theorem bef_trans : ∀ {a b c : List Rat}, befE a b = true → befE b c = true → befE a c = true
  | [], b, c, h, _ => by cases b <;> cases h
  | _ :: _, [], c, h, _ => by cases h
  | _ :: _, _ :: _, [], _, h => by cases h
  | x :: a, y :: b, z :: c, h, h' => by
    rw [bef_cons] at h h' ⊢
    by_cases c1 : x = y
    · rw [if_pos c1] at h
      subst c1
      by_cases c2 : x = z
      · rw [if_pos c2] at h' ⊢
        exact bef_trans h h'
      · rw [if_neg c2] at h' ⊢
        exact h'
    · rw [if_neg c1] at h
      have h := of_decide_eq_true h
      by_cases c2 : y = z
      · subst c2
        rw [if_neg c1]
        exact decide_eq_true h
      · rw [if_neg c2] at h'
        have h' := of_decide_eq_true h'
        have h3 : x < z := by grind
        rw [if_neg (by grind)]
        exact decide_eq_true h3
theorem bef_total : ∀ {a b : List Rat}, a.length = b.length → a ≠ b → befE a b = true ∨ befE b a = true
  | [], [], _, n => absurd rfl n
  | [], _ :: _, h, _ => by cases h
  | _ :: _, [], h, _ => by cases h
  | x :: a, y :: b, h, n => by
    rw [bef_cons, bef_cons]
    by_cases c : x = y
    · subst c
      rw [if_pos rfl, if_pos rfl]
      exact bef_total (by simpa using h) fun z => n (by rw [z])
    · rw [if_neg c, if_neg (Ne.symm c)]
      have : x < y ∨ y < x := by grind
      exact this.imp decide_eq_true decide_eq_true
def Srt (ps : List (List Rat)) : Prop := ps.Pairwise fun a b => befE a b = true
theorem Srt.nodup {ps : List (List Rat)} (h : Srt ps) : ps.Nodup := List.Pairwise.imp (fun {a b} h e => by rw [e, bef_irr] at h; cases h) h
theorem cnt_at : ∀ {ps : List (List Rat)} (p : List Rat), Srt ps → (ps.filter fun q => befE q p).length = atE ps p
  | [], _, _ => rfl
  | q :: qs, p, h => by
    obtain ⟨h1, h2⟩ := List.pairwise_cons.mp h
    unfold atE
    by_cases c : befE q p = true
    · rw [List.filter_cons_of_pos (p := fun q => befE q p) c, List.length_cons, if_pos c, cnt_at p h2]
    · rw [List.filter_cons_of_neg (p := fun q => befE q p) c, if_neg c]
      have : qs.filter (fun q => befE q p) = [] := List.filter_eq_nil_iff.mpr fun x hx z => c (bef_trans (h1 x hx) z)
      rw [this]
      rfl
theorem at_mem : ∀ {ps : List (List Rat)} {p : List Rat}, Srt ps → p ∈ ps → atE ps p < ps.length ∧ ps.getD (atE ps p) [] = p
  | [], _, _, h => absurd h List.not_mem_nil
  | q :: qs, p, h, m => by
    obtain ⟨h1, h2⟩ := List.pairwise_cons.mp h
    unfold atE
    rcases List.mem_cons.mp m with rfl | m
    · rw [bef_irr]
      exact ⟨Nat.succ_pos _, rfl⟩
    · rw [if_pos (h1 p m)]
      obtain ⟨a, b⟩ := at_mem h2 m
      exact ⟨Nat.succ_lt_succ a, b⟩
theorem ins_mem {ps : List (List Rat)} {p : List Rat} (h : Srt ps) (m : p ∈ ps) : insE ps p = ps := by
  obtain ⟨a, b⟩ := at_mem h m
  unfold insE
  rw [if_neg]
  rintro (z | z)
  · omega
  · exact z b
theorem ins_new {ps : List (List Rat)} {p : List Rat} (m : p ∉ ps) : insE ps p = ps.take (atE ps p) ++ p :: ps.drop (atE ps p) := by
  unfold insE
  rw [if_pos]
  by_cases c : atE ps p = ps.length
  · exact .inl c
  · exact .inr fun z => m (z ▸ getD_mem (by have := atE_le ps p; omega))
theorem srt_new : ∀ {ps : List (List Rat)} {p : List Rat} {n : Nat}, Srt ps → (∀ q ∈ ps, q.length = n) → p.length = n → p ∉ ps → Srt (ps.take (atE ps p) ++ p :: ps.drop (atE ps p))
  | [], p, n, _, _, _, _ => List.pairwise_singleton _ _
  | q :: qs, p, n, h, hl, hp, m => by
    obtain ⟨h1, h2⟩ := List.pairwise_cons.mp h
    unfold atE
    by_cases c : befE q p = true
    · rw [if_pos c, List.take_succ_cons, List.drop_succ_cons, List.cons_append]
      refine List.pairwise_cons.mpr ⟨fun x hx => ?_, srt_new h2 (fun x hx => hl x (List.mem_cons_of_mem _ hx)) hp fun z => m (List.mem_cons_of_mem _ z)⟩
      rcases List.mem_append.mp hx with hx | hx
      · exact h1 x (List.mem_of_mem_take hx)
      · rcases List.mem_cons.mp hx with rfl | hx
        · exact c
        · exact h1 x (List.mem_of_mem_drop hx)
    · rw [if_neg c]
      have ne : p ≠ q := fun z => m (z ▸ List.mem_cons_self)
      have pq : befE p q = true := by
        rcases bef_total (hp.trans (hl q List.mem_cons_self).symm) ne with z | z
        · exact z
        · exact absurd z c
      show Srt (p :: q :: qs)
      refine List.pairwise_cons.mpr ⟨fun x hx => ?_, h⟩
      rcases List.mem_cons.mp hx with rfl | hx
      · exact pq
      · exact bef_trans pq (h1 x hx)
theorem srt_ins {ps : List (List Rat)} {p : List Rat} {n : Nat} (h : Srt ps) (hl : ∀ q ∈ ps, q.length = n) (hp : p.length = n) : Srt (insE ps p) := by
  by_cases m : p ∈ ps
  · rw [ins_mem h m]
    exact h
  · rw [ins_new m]
    exact srt_new h hl hp m
theorem srt_fold {n : Nat} : ∀ {pts f : List (List Rat)}, Srt f → (∀ q ∈ f, q.length = n) → (∀ q ∈ pts, q.length = n) → Srt (pts.foldl insE f)
  | [], f, h, _, _ => h
  | p :: pts, f, h, hf, hp => by
    rw [List.foldl_cons]
    refine srt_fold (srt_ins h hf (hp p List.mem_cons_self)) (fun q hq => ?_) fun q hq => hp q (List.mem_cons_of_mem _ hq)
    rcases mem_insE.mp hq with rfl | hq
    · exact hp _ List.mem_cons_self
    · exact hf q hq
theorem srt_ord {pts : List (List Rat)} {n : Nat} (h : ∀ q ∈ pts, q.length = n) : Srt (ordE pts) := srt_fold List.Pairwise.nil (by simp) h
theorem ratsO_map : ∀ r : List Rat, ratsO (r.map .rat) = some r
  | [] => rfl
  | q :: r => by
    rw [List.map_cons, ratsO, ratsO_map r]
    rfl
theorem rowsO_map (o : Bool) : ∀ ps : List (List Rat), rowsO o (ps.map fun p => D.lst o (p.map .rat)) = some ps
  | [] => rfl
  | p :: ps => by
    have e : rowO o (.lst o (p.map .rat)) = some p := by
      show (if o = o then ratsO (p.map .rat) else none) = some p
      rw [if_pos rfl, ratsO_map]
    rw [List.map_cons, rowsO, e, rowsO_map o ps]
theorem rowsOf_own (ps : List (List Rat)) : rowsOf true (.lst true (ownPs ps)) = some ps := rowsO_map true ps
theorem rowsOf_enc (ps : List (List Rat)) : rowsOf false (.lst true (encPs ps)) = some ps := rowsO_map false ps
def encQs (pts : List (List Rat)) : List D := pts.map fun p => D.lst false (p.map pr)
theorem encQs_noOwns (pts : List (List Rat)) : D.noOwns (encQs pts) = true := noOwns_map (fun p => by show (!false && D.noOwns (p.map pr)) = true; rw [noOwns_prs']; rfl) pts
theorem encQs_strips (pts : List (List Rat)) : D.strips (encQs pts) = encQs pts := strips_map (fun p => by show D.lst false (D.strips (p.map pr)) = _; rw [strips_prs']) pts
section
variable {Γ : String → Option MDef} {k : Nat} {s : Strm} {Q : D → Strm → Prop}
theorem V_verticesO (hz : Γ "is_zero" = some r_is_zero) (hq : Γ "quotient" = some r_quotient) (hle : Γ "lessened" = some d_lessened) (hre : Γ "reduced" = some d_reduced) (hso : Γ "solve" = some d_solve) (hch : Γ "choices" = some d_choices) (ht : Γ "total" = some d_total) (hpr : Γ "products" = some d_products) (hfv : Γ "form_value" = some d_form_value) (hng : Γ "is_negative" = some d_is_negative) (hin : Γ "is_inside" = some d_is_inside) (hls : Γ "is_less" = some d_is_less) (hbe : Γ "come_before" = some d_come_before) (hio : Γ "in_order" = some d_in_order) (h2 : Γ "vertices" = some d_vertices4)
    {fs : List (List Rat × Rat)} {n mf z : Nat} (h0 : n ≠ 0) (hn : n ≤ 3) (hfl : fs.length ≤ 20) (S : VSz fs n mf z) (hl : ∀ i ≤ n, (chs fs.length i).length ≤ 1000) (nd : (ordE (cornersE fs n)).Nodup) (q : Q (.lst true (ownPs (ordE (cornersE fs n)))) s) : V (callF Γ (k + 5) "vertices" [encRm fs, .int (n : Nat)]) s Q := by
  refine V_call h2 rfl ?_
  simp only [d_vertices4, encRm]
  have hlim : (LIM : Int) = 1000000 := rfl
  have hlim2 : LIM = 1000000 := rfl
  have no := noOwns_fms fs
  have srm := strip_rm fs
  unfold encRm at srm
  have hns := S.zs
  have hms := S.ms
  walk_at "mp nx"
  rw [if_neg (by simpa using h0)]
  walk_at "mp nx"
  generalize hB : Bdy (callF Γ (k + 4)) _ = B
  generalize hN : Nxt (callF Γ (k + 4)) _ _ = N
  refine ⟨no, ?_⟩
  rw [List.length_map]
  refine V_choices (k := k + 3) hch (by omega) (by omega) (fun i' hi' => hl i' (by omega)) ?_
  walk_at "mp mn"
  refine ⟨encN_noOwns _, ?_⟩
  refine V_for (fun p e t => t = s ∧ p ≤ (chs fs.length n).length ∧ e = [some (.tup (fs.map fun f => encFm f.1 f.2)), some (.int (n : Nat)), some (.lst true (ownPs (((chs fs.length n).take p).filterMap (cornerE fs n)))), none, none, none]) _ 0 ⟨rfl, Nat.zero_le _, rfl⟩ ?_ ?_
  · rintro p x e t hx ⟨rfl, hp, rfl⟩
    rw [List.getElem?_map] at hx
    obtain ⟨names, hr, rfl⟩ := Option.map_eq_some_iff.mp hx
    have hpl := (List.getElem?_eq_some_iff.mp hr).1
    have hmem := List.mem_of_getElem? hr
    have hnl := chs_len _ n names hmem
    have hnk := chs_lt _ n names hmem
    rw [Nat.zero_add] at hp ⊢
    rw [mem_cornersE_take hr]
    have tl : (((chs fs.length n).take p).filterMap (cornerE fs n)).length ≤ 1000 := by
      have h1 := corners_len fs n ((chs fs.length n).take p)
      have h3 := hl n (Nat.le_refl _)
      rw [List.length_take] at h1
      omega
    generalize ((chs fs.length n).take p).filterMap (cornerE fs n) = found at tl ⊢
    have hr1 : ∀ r ∈ rowsF fs names, r.length = n := fun r h => by
      obtain ⟨j, hj, rfl⟩ := List.mem_map.mp h
      exact (S.fm _ (getD_mem (hnk j hj))).len
    have hrl : (rowsF fs names).length = n := by unfold rowsF; rw [List.length_map]; exact hnl
    have hcl : (negC fs names).length = (rowsF fs names).length := by unfold negC; rw [List.length_map, hrl, hnl]
    walk_at "mp mn"
    rw [← congrFun hB, Bdy_eq]
    walk_at "mp nx"
    have fin : (encN names).noOwn = true := encN_noOwn names
    have hin' : D.noOwns (names.map fun (i : Nat) => D.int i) = true := noOwns_map (fun _ => rfl) names
    refine ⟨fin, ?_⟩
    rw [show seqD (encN names) = pure (names.map fun (i : Nat) => D.int i) from rfl]
    walk_at "mp mn"
    refine ⟨⟨by rw [List.length_map]; omega, hin'⟩, ?_⟩
    refine V_mapE (h := fun k : Nat => mixF .rat (true, (fs.getD k ([], 0)).1)) _ (fun k hk R hR => ?_) ?_
    · have hkl := hnk k hk
      rw [Elm_eq]
      walk_at "mp mn"
      rw [ix_tup (fm_at hkl)]
      simp only [encFm]
      walk_at "mp mn"
      exact ⟨noOwns_rats' _, hR⟩
    refine ⟨fin, ⟨by rw [List.length_map]; omega, hin'⟩, ?_⟩
    refine V_mapE (h := fun k : Nat => D.rat (-(fs.getD k ([], 0)).2)) _ (fun k hk R hR => ?_) ?_
    · have hkl := hnk k hk
      rw [Elm_eq]
      walk_at "mp mn"
      rw [ix_tup (fm_at hkl)]
      simp only [encFm]
      walk_at "mp mn"
      exact ⟨Zk.sm (S.fm _ (getD_mem hkl)).c (by omega), hR⟩
    rw [show names.map (fun k : Nat => mixF .rat (true, (fs.getD k ([], 0)).1)) = ((rowsF fs names).map fun r => (true, r)).map (mixF .rat) by unfold rowsF; rw [List.map_map, List.map_map]; rfl]
    rw [show names.map (fun k : Nat => D.rat (-(fs.getD k ([], 0)).2)) = (negC fs names).map .rat by unfold negC; rw [List.map_map]; rfl]
    rw [encR_rat.strips_mix, show ((rowsF fs names).map fun r => (true, r)).map (·.2) = rowsF fs names by rw [List.map_map]; exact List.map_id _, strips_rats']
    refine V_solve (k := k) (w := n) (m := 2199) hz hq hle hre hso (by omega) (by omega) (by omega) hcl hr1 (S.red names hmem) (by decide) ?_
    have hpt := S.pt names hmem
    have hce : cornerE fs n names = (solE (rowsF fs names) (negC fs names) n).filter (insB fs) := rfl
    rw [hce]
    cases hso2 : solE (rowsF fs names) (negC fs names) n with
    | none =>
      refine ⟨rfl, ?_⟩
      simp only [solD]
      walk_at "mp nx"
      rw [show isNon .non = true from rfl, if_neg (by decide)]
      refine ⟨by omega, ?_⟩
      rw [show (Option.filter (insB fs) none).toList = [] from rfl, List.append_nil]
    | some pt =>
      obtain ⟨pl, pz⟩ := hpt pt hso2
      refine ⟨encR_rat.noShrs pt, ?_⟩
      simp only [solD]
      walk_at "mp nx"
      rw [show isNon (.lst true (pt.map .rat)) = false from rfl, if_pos (by decide)]
      rw [strips_rats', strips_fms]
      refine V_is_inside (k := k) (m := mf) (n := z) (l := n) ht hpr hfv hng hin (by omega) S.fm pz S.sz ?_
      have ol : (ownPs found).length < LIM := by unfold ownPs; rw [List.length_map]; omega
      walk_at "mp mn"
      rw [Option.filter_some]
      by_cases hi : insB fs pt = true
      · rw [if_pos hi, if_pos hi]
        refine ⟨ol, by omega, ?_⟩
        rw [show (some pt).toList = [pt] from rfl]
        unfold ownPs
        rw [List.map_append]
        rfl
      · rw [if_neg hi, if_neg hi]
        refine ⟨by omega, ?_⟩
        rw [show (none : Option (List Rat)).toList = [] from rfl, List.append_nil]
  · rintro e t ⟨rfl, _, rfl⟩
    rw [List.length_map, Nat.zero_add, List.take_of_length_le (Nat.le_refl _), ← hN]
    walk_at "mp nx"
    rw [rowsOf_own]
    walk_at "mp mn"
    refine V_in_order (k := k + 1) hls hbe hio (Nat.le_trans (corners_len fs n _) (hl n (Nat.le_refl _))) (fun p hp => ?_) ?_
    · obtain ⟨h1, h3⟩ := S.corner hp
      exact ⟨by omega, fun x hx => Zk.sm (h3 x hx) (by omega)⟩
    rw [rowsOf_enc]
    walk_at "mp mn"
    exact ⟨nd, q⟩
end
end Mp

namespace Mp
open PySem (Str CmpOp)
/-! ### vertices, any number of unknowns; the law's corners -/
def vtsE (fs : List (List Rat × Rat)) (n : Nat) : List (List Rat) := if n = 0 then (if insB fs [] = true then [[]] else []) else ordE (cornersE fs n)
structure VSq (fs : List (List Rat × Rat)) (n mf z : Nat) : Prop where
  fm : ∀ f ∈ fs, FmOk n mf f
  red : ∀ names ∈ chs fs.length n, Sized (augE (rowsF fs names) (negC fs names)) (n + 1) 1081
  pt : ∀ names ∈ chs fs.length n, ∀ p, solE (rowsF fs names) (negC fs names) n = some p → p.length = n ∧ ∀ x ∈ p, Zb z z x
  sz : (mf + z + 1) * (n + 2) < 2300
theorem Sized.mono {rows : List (List Rat)} {w m m' : Nat} (h : Sized rows w m) (c : m ≤ m') : Sized rows w m' := fun x hx hp => (h x hx hp).mono c
theorem VSq.sz1 {fs : List (List Rat × Rat)} {n mf z : Nat} (S : VSq fs n mf z) : (mf + z + 1) * (n + 1) < 2300 := Nat.lt_of_le_of_lt (Nat.mul_le_mul_left _ (Nat.le_succ _)) S.sz
theorem VSq.v {fs : List (List Rat × Rat)} {n mf z : Nat} (S : VSq fs n mf z) : VSz fs n mf z := ⟨S.fm, fun nm h => (S.red nm h).mono (by decide), S.pt, Nat.lt_trans S.sz1 (by decide)⟩
theorem ord_srt {fs : List (List Rat × Rat)} {n mf z : Nat} (S : VSz fs n mf z) : Srt (ordE (cornersE fs n)) := srt_ord fun q hq => (S.corner hq).1
theorem eqv_pr' (a b : Rat) : D.eqv (pr a) (pr b) = some (decide (a = b)) := by
  show (match some (a.num == b.num) with | some true => D.eqvs [.int a.den] [.int b.den] | r => r) = _
  by_cases h : a.num = b.num
  · rw [beq_iff_eq.mpr h]
    show (match some ((a.den : Int) == (b.den : Int)) with | some true => D.eqvs [] [] | r => r) = _
    by_cases h' : a.den = b.den
    · have e : a = b := Rat.ext h h'
      subst e
      rw [beq_self_eq_true, decide_eq_true rfl]
      rfl
    · rw [beq_eq_false_iff_ne.mpr (by omega), decide_eq_false (fun z => h' (by rw [z]))]
  · rw [beq_eq_false_iff_ne.mpr h, decide_eq_false (fun z => h (by rw [z]))]
theorem eqv_lpr (o o' : Bool) (p q : List Rat) : D.eqv (.lst o (p.map pr)) (.lst o' (q.map pr)) = some (decide (p = q)) := by
  show (if (p.map pr).length = (q.map pr).length then D.eqvs (p.map pr) (q.map pr) else some false) = _
  split
  · exact eqvs_dec eqv_pr' p q
  · rename_i hl
    rw [List.length_map, List.length_map] at hl
    rw [decide_eq_false (fun z => hl (by rw [z]))]
theorem anyEq_q (o : Bool) (p : List Rat) : ∀ ps : List (List Rat), anyEq (.lst o (p.map pr)) (encQs ps) = some (decide (p ∈ ps))
  | [] => rfl
  | q :: ps => by
    show (match D.eqv (.lst false (q.map pr)) (.lst o (p.map pr)) with | some false => anyEq (.lst o (p.map pr)) (encQs ps) | r => r) = _
    rw [eqv_lpr]
    by_cases h : q = p
    · rw [decide_eq_true h, decide_eq_true (by rw [h]; exact List.mem_cons_self)]
    · rw [decide_eq_false h]
      show anyEq (.lst o (p.map pr)) (encQs ps) = _
      rw [anyEq_q o p ps]
      congr 1
      exact decide_eq_decide.mpr ⟨fun z => List.mem_cons_of_mem _ z, fun z => (List.mem_cons.mp z).elim (fun e => absurd e.symm h) id⟩
theorem plain_lpr (o : Bool) (p : List Rat) (n : Nat) : (D.lst o (p.map pr)).plain (n + 2) = true := plains_mapR (f := pr) (m := n + 1) (fun x => rfl) p
theorem plains_q (ps : List (List Rat)) (n : Nat) : D.plains (encQs ps) (n + 2) = true := plains_mapR (f := fun p : List Rat => D.lst false (p.map pr)) (fun p => plain_lpr false p n) ps
theorem notIn_q (o o' : Bool) (p : List Rat) (ps : List (List Rat)) : cmpD .NotIn (.lst o (p.map pr)) (.lst o' (encQs ps)) = pure (!decide (p ∈ ps)) := by
  show (do guardM (canIn (.lst o (p.map pr)) (encQs ps) = true); let r ← ofO (anyEq (.lst o (p.map pr)) (encQs ps)); pure (!r)) = (pure _ : M Bool)
  have h : canIn (.lst o (p.map pr)) (encQs ps) = true := by
    show ((D.lst o (p.map pr)).plain 40 && D.plains (encQs ps) 39) = true
    rw [plain_lpr, plains_q]
    rfl
  rw [h, anyEq_q]
  rfl
theorem take_q (ps : List (List Rat)) (i : Nat) : (encQs ps).take i = encQs (ps.take i) := by unfold encQs; rw [List.map_take]
theorem drop_q (ps : List (List Rat)) (i : Nat) : (encQs ps).drop i = encQs (ps.drop i) := by unfold encQs; rw [List.map_drop]
theorem V_filtE {α : Type} {f : D → M (Option D)} {s : Strm} {e : α → D} {p : α → Bool} {Q : List D → Strm → Prop} : ∀ (xs : List α), (∀ x ∈ xs, ∀ R : Option D → Strm → Prop, R (if p x = true then some (e x) else none) s → V (f (e x)) s R) → Q ((xs.filter p).map e) s → V (lcD f (xs.map e)) s Q
  | [], _, q => by rw [List.map_nil, lcD]; exact V_pure.mpr q
  | x :: xs, hf, q => by
    rw [List.map_cons, lcD]
    refine V_bind.mpr (hf x List.mem_cons_self _ (V_bind.mpr (V_filtE (p := p) xs (fun y hy => hf y (List.mem_cons_of_mem _ hy)) ?_)))
    by_cases c : p x = true
    · rw [if_pos c]
      rw [List.filter_cons_of_pos c] at q
      exact V_pure.mpr q
    · rw [if_neg c]
      rw [List.filter_cons_of_neg c] at q
      exact V_pure.mpr q
theorem cut_down {α : Type} (xs : List α) (n : Nat) : cut xs (some (n : Int)) none = xs.drop n := by
  unfold cut six
  have h0 : ¬ ((n : Int) < 0) := by omega
  simp only [h0, if_false, Int.toNat_natCast]
  by_cases c : n ≤ xs.length
  · rw [Nat.min_eq_left c, List.take_of_length_le (by rw [List.length_drop]; omega)]
  · rw [Nat.min_eq_right (by omega), List.drop_of_length_le (Nat.le_refl _), List.drop_of_length_le (by omega), List.take_nil]
theorem cat_lst {o o' : Bool} {as bs : List D} (h : as.length + bs.length ≤ LIM) : binD .add (.lst o as) (.lst o' bs) = (pure (.lst true (as ++ bs)) : M D) := by
  show (do guardM (as.length + bs.length ≤ LIM); pure (.lst true (as ++ bs))) = (pure (.lst true (as ++ bs)) : M D)
  unfold guardM
  rw [if_pos h]
  rfl
theorem mul_q1 : binD .mul (.lst false [.lst false []]) (.int 1) = (pure (.lst true [.lst false []]) : M D) := rfl
theorem mul_q0 : binD .mul (.lst false [.lst false []]) (.int 0) = (pure (.lst true []) : M D) := rfl
section
variable {Γ : String → Option MDef} {k : Nat} {s : Strm} {Q : D → Strm → Prop}
theorem V_vertices4 (hz : Γ "is_zero" = some r_is_zero) (hq : Γ "quotient" = some r_quotient) (hle : Γ "lessened" = some d_lessened) (hre : Γ "reduced" = some d_reduced) (hso : Γ "solve" = some d_solve) (hch : Γ "choices" = some d_choices) (ht : Γ "total" = some d_total) (hpr : Γ "products" = some d_products) (hfv : Γ "form_value" = some d_form_value) (hng : Γ "is_negative" = some d_is_negative) (hin : Γ "is_inside" = some d_is_inside) (hls : Γ "is_less" = some d_is_less) (hbe : Γ "come_before" = some d_come_before) (hio : Γ "in_order" = some d_in_order) (h2 : Γ "vertices" = some d_vertices4)
    {fs : List (List Rat × Rat)} {n mf z : Nat} (hn : n ≤ 3) (hfl : fs.length ≤ 20) (S : VSq fs n mf z) (hl : ∀ i ≤ n, (chs fs.length i).length ≤ 1000) (q : Q (.lst true (ownPs (vtsE fs n))) s) : V (callF Γ (k + 5) "vertices" [encRm fs, .int (n : Nat)]) s Q := by
  by_cases h0 : n = 0
  · unfold vtsE at q
    rw [if_pos h0] at q
    subst h0
    refine V_call h2 rfl ?_
    have srm := strip_rm fs
    unfold encRm at srm
    simp only [d_vertices4, encRm]
    walk_at "mp nx"
    rw [if_pos (by rfl)]
    walk_at "mp nx"
    rw [show D.strips (fs.map fun f => encFm f.1 f.2) = fs.map fun f => encFm f.1 f.2 from strips_fms fs]
    refine V_is_inside (k := k) (p := []) (m := mf) (n := z) (l := 0) ht hpr hfv hng hin (by omega) S.fm (by simp) (by have := S.sz; omega) ?_
    walk_at "mp nx"
    by_cases hi : insB fs [] = true
    · rw [if_pos hi] at q
      rw [hi, if_pos rfl]
      walk_at "mp nx"
      exact q
    · rw [if_neg hi] at q
      rw [if_neg hi]
      walk_at "mp nx"
      walk_at "mp nx"
      exact q
  · unfold vtsE at q
    rw [if_neg h0] at q
    exact V_verticesO hz hq hle hre hso hch ht hpr hfv hng hin hls hbe hio h2 h0 hn hfl S.v hl (ord_srt S.v).nodup q
theorem V_is_empty4 (h2 : Γ "is_empty" = some d_is_empty) {fs : List (List Rat × Rat)} {n : Nat} {pts : List (List Rat)} (hv : ∀ R : D → Strm → Prop, R (.lst true (ownPs pts)) s → V (callF Γ (k + 5) "vertices" [encRm fs, .int (n : Nat)]) s R) (q : Q (.bl pts.isEmpty) s) : V (callF Γ (k + 6) "is_empty" [encRm fs, .int (n : Nat)]) s Q := by
  refine V_call h2 rfl ?_
  simp only [d_is_empty]
  have srm := strip_rm fs
  walk_at "mp nx"
  rw [srm]
  refine hv _ ?_
  refine ⟨Or.inr (noOwn_rm fs), ?_⟩
  refine V_truth.mpr ?_
  have : (!(ownPs pts).isEmpty) = !pts.isEmpty := by unfold ownPs; rw [List.isEmpty_map]
  rw [this]
  walk_at "mp nx"
  rw [Bool.not_not]
  exact q
theorem V_lawcorners (hdv : Γ "_law_divisor" = some d__law_divisor) (hq : Γ "_law_q" = some d__law_q) (hmu : Γ "_law_mul" = some d__law_mul) (hsu : Γ "_law_sub" = some d__law_sub) (hov : Γ "_law_over" = some r__law_over) (hwi : Γ "_law_without" = some d__law_without) (hre : Γ "_law_reduced" = some d__law_reduced) (hso : Γ "_law_solution" = some d__law_solution) (hpk : Γ "_law_picks" = some d__law_picks)
    (had : Γ "_law_add" = some d__law_add) (hv : Γ "_law_value" = some r__law_value) (hin : Γ "_law_inside" = some d__law_inside) (hle : Γ "_law_less" = some d__law_less) (hbe : Γ "_law_before" = some d__law_before) (h2 : Γ "_law_corners" = some d__law_corners)
    {fs : List (List Rat × Rat)} {n mf z : Nat} (hn : n ≤ 3) (hfl : fs.length ≤ 20) (S : VSq fs n mf z) (hl : ∀ i ≤ n, (chs fs.length i).length ≤ 1000) (q : Q (.lst true (encQs (vtsE fs n))) s) : V (callF Γ (k + 7) "_law_corners" [.lst false (fs.map fun f => encFl f.1 f.2), .int (n : Nat)]) s Q := by
  have hlim : (LIM : Int) = 1000000 := rfl
  have hlim2 : LIM = 1000000 := rfl
  have no := noOwns_fls fs
  have sfl := strips_fls fs
  by_cases h0 : n = 0
  · unfold vtsE at q
    rw [if_pos h0] at q
    subst h0
    refine V_call h2 rfl ?_
    simp only [d__law_corners]
    walk_at "mp nx"
    rw [if_pos (by rfl)]
    walk_at "mp nx"
    rw [sfl]
    refine V_lawinside (k := k + 1) (p := []) (m := mf) (n := z) hdv hq had hmu hv hin (by omega) S.fm (by simp) S.sz ?_
    walk_at "mp nx"
    by_cases hi : insB fs [] = true
    · rw [if_pos hi] at q
      rw [hi]
      walk_at "mp nx"
      rw [mul_q1]
      exact V_pure.mpr q
    · rw [if_neg hi] at q
      rw [Bool.not_eq_true] at hi
      rw [hi]
      walk_at "mp nx"
      rw [mul_q0]
      exact V_pure.mpr q
  · unfold vtsE at q
    rw [if_neg h0] at q
    have hcl0 : ∀ ps : List (List Rat), (∀ x ∈ ps, x ∈ cornersE fs n) → Srt (ordE ps) := fun ps h => srt_ord fun x hx => (S.v.corner (h x hx)).1
    have hzs := S.v.zs
    refine V_call h2 rfl ?_
    simp only [d__law_corners]
    walk_at "mp nx"
    rw [if_neg (by simpa using h0)]
    walk_at "mp nx"
    generalize hB : Bdy (callF Γ (k + 6)) _ = B
    generalize hN : Nxt (callF Γ (k + 6)) _ _ = N
    refine ⟨no, ?_⟩
    rw [List.length_map]
    refine V_picks (k := k + 5) hpk (by omega) (by omega) (fun i' hi' => hl i' (by omega)) ?_
    walk_at "mp mn"
    refine ⟨encN_noOwns _, ?_⟩
    refine V_for (fun p e t => t = s ∧ p ≤ (chs fs.length n).length ∧ e = [some (.lst false (fs.map fun f => encFl f.1 f.2)), some (.int (n : Nat)), some (.lst true (encQs (ordE (((chs fs.length n).take p).filterMap (cornerE fs n))))), none, none, none, none, none, none]) _ 0 ⟨rfl, Nat.zero_le _, rfl⟩ ?_ ?_
    · rintro p x e t hx ⟨rfl, hp, rfl⟩
      rw [List.getElem?_map] at hx
      obtain ⟨names, hr, rfl⟩ := Option.map_eq_some_iff.mp hx
      have hpl := (List.getElem?_eq_some_iff.mp hr).1
      have hmem := List.mem_of_getElem? hr
      have hnl := chs_len _ n names hmem
      have hnk := chs_lt _ n names hmem
      rw [Nat.zero_add] at hp ⊢
      rw [mem_cornersE_take hr]
      have tsub : ∀ x ∈ ((chs fs.length n).take p).filterMap (cornerE fs n), x ∈ cornersE fs n := fun x hx => by
        obtain ⟨nm, h1, h2⟩ := List.mem_filterMap.mp hx
        exact List.mem_filterMap.mpr ⟨nm, List.mem_of_mem_take h1, h2⟩
      have tl : (((chs fs.length n).take p).filterMap (cornerE fs n)).length ≤ 1000 := by
        have h1 := corners_len fs n ((chs fs.length n).take p)
        have h3 := hl n (Nat.le_refl _)
        rw [List.length_take] at h1
        omega
      generalize ((chs fs.length n).take p).filterMap (cornerE fs n) = found at tl tsub ⊢
      have hsr := hcl0 found tsub
      have hr1 : ∀ r ∈ rowsF fs names, r.length = n := fun r h => by
        obtain ⟨j, hj, rfl⟩ := List.mem_map.mp h
        exact (S.fm _ (getD_mem (hnk j hj))).len
      have hrl : (rowsF fs names).length = n := by unfold rowsF; rw [List.length_map]; exact hnl
      have hcl : (negC fs names).length = (rowsF fs names).length := by unfold negC; rw [List.length_map, hrl, hnl]
      walk_at "mp mn"
      rw [← congrFun hB, Bdy_eq]
      walk_at "mp nx"
      have fin : (encN names).noOwn = true := encN_noOwn names
      have hin' : D.noOwns (names.map fun (i : Nat) => D.int i) = true := noOwns_map (fun _ => rfl) names
      refine ⟨fin, ?_⟩
      rw [show seqD (encN names) = pure (names.map fun (i : Nat) => D.int i) from rfl]
      walk_at "mp mn"
      refine ⟨⟨by rw [List.length_map]; omega, hin'⟩, ?_⟩
      refine V_mapE (h := fun k : Nat => mixF pr (true, (fs.getD k ([], 0)).1)) _ (fun k hk R hR => ?_) ?_
      · have hkl := hnk k hk
        rw [Elm_eq]
        walk_at "mp mn"
        rw [ix_lst (fl_at hkl)]
        simp only [encFl]
        walk_at "mp mn"
        exact ⟨noOwns_prs' _, hR⟩
      walk_at "mp nx"
      refine ⟨fin, ?_⟩
      rw [show seqD (encN names) = pure (names.map fun (i : Nat) => D.int i) from rfl]
      walk_at "mp mn"
      refine ⟨⟨by rw [List.length_map]; omega, hin'⟩, ?_⟩
      refine V_mapE (h := fun k : Nat => pr (-(fs.getD k ([], 0)).2)) _ (fun k hk R hR => ?_) ?_
      · have hkl := hnk k hk
        have ixm : ixD (.lst false (fs.map fun f => encFl f.1 f.2)) (.int (k : Nat)) = pure (.tup [.tup ((fs.getD k ([], 0)).1.map pr), .tup [.int (fs.getD k ([], 0)).2.num, .int ((fs.getD k ([], 0)).2.den : Nat)]]) := ix_lst (fl_at hkl)
        have en : pr (-(fs.getD k ([], 0)).2) = .tup [.int (-(fs.getD k ([], 0)).2.num), .int ((fs.getD k ([], 0)).2.den : Nat)] := by
          unfold pr
          rw [Rat.neg_num, Rat.neg_den]
        rw [en] at hR
        rw [Elm_eq]
        walk_at "mp mn"
        rw [ixm]
        walk_at "mp mn"
        exact hR
      rw [show names.map (fun k : Nat => mixF pr (true, (fs.getD k ([], 0)).1)) = ((rowsF fs names).map fun r => (true, r)).map (mixF pr) by unfold rowsF; rw [List.map_map, List.map_map]; rfl]
      rw [show names.map (fun k : Nat => pr (-(fs.getD k ([], 0)).2)) = (negC fs names).map pr by unfold negC; rw [List.map_map]; rfl]
      rw [encR_pr.strips_mix, show ((rowsF fs names).map fun r => (true, r)).map (·.2) = rowsF fs names by rw [List.map_map]; exact List.map_id _, strips_prs']
      refine V_lawsolution (k := k) (w := n) (m := 1081) hdv hq hmu hsu hov hwi hre hso (by omega) (by omega) (by omega) hcl hr1 (S.red names hmem) (by decide) ?_
      have hpt := S.pt names hmem
      have hce : cornerE fs n names = (solE (rowsF fs names) (negC fs names) n).filter (insB fs) := rfl
      rw [hce]
      cases hso2 : solE (rowsF fs names) (negC fs names) n with
      | none =>
        refine ⟨rfl, ?_⟩
        simp only [solD]
        walk_at "mp nx"
        rw [show isNon .non = true from rfl, if_neg (by decide)]
        refine ⟨by omega, ?_⟩
        rw [show (Option.filter (insB fs) none).toList = [] from rfl, List.append_nil]
      | some pt =>
        obtain ⟨pl, pz⟩ := hpt pt hso2
        refine ⟨encR_pr.noShrs pt, ?_⟩
        simp only [solD]
        walk_at "mp nx"
        rw [show isNon (.lst true (pt.map pr)) = false from rfl, if_pos (by decide)]
        rw [strips_prs', sfl]
        refine V_lawinside (k := k + 1) (p := pt) (m := mf) (n := z) hdv hq had hmu hv hin (by omega) (by rw [pl]; exact S.fm) pz (by rw [pl]; exact S.sz) ?_
        walk_at "mp mn"
        rw [Option.filter_some]
        by_cases hi : insB fs pt = true
        · rw [if_pos hi, if_pos hi, show (some pt).toList = [pt] from rfl]
          rw [show ordE (found ++ [pt]) = insE (ordE found) pt by unfold ordE; rw [List.foldl_append]; rfl]
          have hfl2 : (ordE found).length ≤ 1000 := Nat.le_trans (ordE_len _) tl
          have hfz : ∀ x ∈ ordE found, x.length = n ∧ ∀ y ∈ x, Zb z z y := fun x hx => S.v.corner (tsub x (mem_ordE.mp hx))
          generalize ordE found = fd at hsr hfl2 hfz ⊢
          rw [notIn_q]
          walk_at "mp mn"
          by_cases hm : pt ∈ fd
          · rw [decide_eq_true hm, if_neg (by decide)]
            walk_at "mp nx"
            rw [ins_mem hsr hm]
            exact ⟨by omega, rfl⟩
          · rw [decide_eq_false hm, if_pos (by decide)]
            walk_at "mp nx"
            rw [encQs_strips]
            have nq := encQs_noOwns fd
            have lq : (encQs fd).length = fd.length := List.length_map _
            refine ⟨nq, ⟨by omega, nq⟩, ?_⟩
            refine V_filtE (e := fun q : List Rat => D.lst false (q.map pr)) (p := fun q => befE q pt) fd (fun x hx R hR => ?_) ?_
            · obtain ⟨xl, xz⟩ := hfz x hx
              rw [Elm_eq]
              walk_at "mp mn"
              rw [strips_prs', strips_prs']
              refine V_lawbefore (k := k + 4) hle hbe (by omega) (by omega) (fun y hy => Zk.sm (xz y hy) (by omega)) (fun y hy => Zk.sm (pz y hy) (by omega)) ?_
              walk_at "mp mn"
              by_cases hb : befE x pt = true
              · rw [if_pos hb] at hR ⊢
                exact ⟨noOwns_prs' _, hR⟩
              · rw [if_neg hb] at hR ⊢
                exact hR
            rw [List.length_map, cnt_at pt hsr]
            walk_at "mp nx"
            rw [strips_prs']
            walk_at "mp nx"
            have ha := atE_le fd pt
            rw [ins_new hm]
            generalize atE fd pt = a at ha ⊢
            refine ⟨nq, ?_⟩
            rw [show slD (.lst false (encQs fd)) none (some (a : Int)) = (pure (.lst true (cut (encQs fd) none (some (a : Int)))) : M D) from rfl, cut_upto, take_q]
            refine V_pure.mpr ⟨noOwns_prs' pt, ?_⟩
            have l1 : (encQs (fd.take a)).length ≤ 1000 := by unfold encQs; rw [List.length_map, List.length_take]; omega
            have l2 : (encQs (fd.drop a)).length ≤ 1000 := by unfold encQs; rw [List.length_map, List.length_drop]; omega
            rw [cat_lst (by rw [List.length_singleton]; omega)]
            refine V_pure.mpr ⟨nq, ?_⟩
            rw [show slD (.lst false (encQs fd)) (some (a : Int)) none = (pure (.lst true (cut (encQs fd) (some (a : Int)) none)) : M D) from rfl, cut_down, drop_q]
            refine V_pure.mpr ?_
            rw [cat_lst (by rw [List.length_append, List.length_singleton]; omega)]
            refine V_pure.mpr ⟨rfl, by omega, ?_⟩
            rw [show encQs (fd.take a) ++ [D.lst false (pt.map pr)] ++ encQs (fd.drop a) = encQs (fd.take a ++ pt :: fd.drop a) by
              unfold encQs
              rw [List.map_append, List.map_cons, List.append_assoc]
              rfl]
        · rw [if_neg hi, if_neg hi]
          walk_at "mp nx"
          refine ⟨by omega, ?_⟩
          rw [show (none : Option (List Rat)).toList = [] from rfl, List.append_nil]
    · rintro e t ⟨rfl, _, rfl⟩
      rw [List.length_map, Nat.zero_add, List.take_of_length_le (Nat.le_refl _), ← hN]
      walk_at "mp nx"
      exact q
end
end Mp

set_option exponentiation.threshold 5000
namespace Mp
open PySem (Str CmpOp)
/-! ### regions whose constants are all times one number -/
def WB : Nat := 10 ^ 40 + 10 ^ 9
structure FmW (n : Nat) (w : Rat) (f : List Rat × Rat) : Prop where
  len : f.1.length = n
  ln : ∀ x ∈ f.1, SmI x
  c : ∃ c, Lq 60 1080 c ∧ f.2 = c * w
theorem FmI.w {n : Nat} {f : List Rat × Rat} (h : FmI n f) : FmW n 1 f := ⟨h.len, h.ln, f.2, h.c, by rw [Rat.mul_one]⟩
theorem FmW.times {n : Nat} {w v : Rat} {f : List Rat × Rat} (h : FmW n w f) : FmW n (w * v) (f.1, f.2 * v) := by
  obtain ⟨c, h1, h2⟩ := h.c
  exact ⟨h.len, h.ln, c, h1, by show f.2 * v = _; rw [h2, Rat.mul_assoc]⟩
theorem one_lq : Lq 1 WB 1 := ⟨1, by rw [Rat.one_mul]; rfl, by decide⟩
section
variable {n b : Nat} {w : Rat} (b0 : 0 < b) (b7 : b ≤ 7) (hb : Lq b WB w)
include b0 b7 hb
theorem FmW.cq {f : List Rat × Rat} (h : FmW n w f) : Lq (60 * b) (1080 * WB) f.2 := by
  obtain ⟨c, h1, h2⟩ := h.c
  rw [h2]
  exact h1.times hb
theorem FmW.lq {f : List Rat × Rat} (h : FmW n w f) : ∀ x ∈ f.1, Lq (60 * b) (1080 * WB) x := fun x hx => ((h.ln x hx).lq.up b).mono (by
  have : b ≤ WB := Nat.le_trans b7 (by decide)
  exact Nat.mul_le_mul_left _ this)
theorem FmW.ok {f : List Rat × Rat} (h : FmW n w f) : FmOk n 144 f := by
  have l0 : 0 < 60 * b := by omega
  have l1 : 60 * b ≤ 2 ^ 144 := Nat.le_trans (show 60 * b ≤ 420 by omega) (by decide +kernel)
  have l2 : 1080 * WB < 2 ^ 144 := by decide +kernel
  exact ⟨h.len, fun x hx => (h.lq b0 b7 hb x hx).zb l0 l1 l2, (h.cq b0 b7 hb).zb l0 l1 l2⟩
end
theorem ent_div (xs : List Rat) (w : Rat) (i : Nat) : ent (xs.map (· / w)) i = w⁻¹ * ent xs i := by
  unfold ent
  rw [List.getD_eq_getElem?_getD, List.getElem?_map, List.getD_eq_getElem?_getD]
  cases xs[i]? with
  | none =>
    show (0 : Rat) = _ * 0
    rw [Rat.mul_zero]
  | some x =>
    show x / w = w⁻¹ * x
    rw [Rat.div_def, Rat.mul_comm]
theorem vsq_of {fs : List (List Rat × Rat)} {n b : Nat} {w : Rat} (hn : n ≤ 3) (hw : w ≠ 0) (b0 : 0 < b) (b7 : b ≤ 7) (hb : Lq b WB w) (hf : ∀ f ∈ fs, FmW n w f) : VSq fs n 144 220 := by
  refine ⟨fun f h => (hf f h).ok b0 b7 hb, fun names hm => ?_, fun names hm p hp => ?_, by have : (144 + 220 + 1) * (n + 2) ≤ (144 + 220 + 1) * 5 := Nat.mul_le_mul_left _ (by omega); omega⟩
  · have hnk := chs_lt _ n names hm
    have hnl := chs_len _ n names hm
    have hr : ∀ r ∈ rowsF fs names, r.length = n := fun r h => by
      obtain ⟨j, hj, rfl⟩ := List.mem_map.mp h
      exact (hf _ (getD_mem (hnk j hj))).len
    have hal : (augE (rowsF fs names) (negC fs names)).length ≤ n := by
      unfold augE
      rw [List.length_zipWith]
      unfold rowsF
      rw [List.length_map]
      omega
    have l1 : 60 * b ≤ 2 ^ 144 := Nat.le_trans (show 60 * b ≤ 420 by omega) (by decide +kernel)
    have l2 : 1080 * WB ≤ 2 ^ 144 := by decide +kernel
    refine sized_C (b := 144) (aug_lens hr) ⟨60 * b, by omega, l1, fun r hr' x hx => ?_⟩ (Nat.le_trans (bnd_mono (b := 144) (show _ - 1 ≤ 2 by omega)) (by decide))
    unfold augE at hr'
    rw [← List.map_uncurry_zip_eq_zipWith] at hr'
    obtain ⟨q, hq, rfl⟩ := List.mem_map.mp hr'
    have hx : x ∈ q.1 ++ [q.2] := hx
    rcases List.mem_append.mp hx with h | h
    · obtain ⟨j, hj, e⟩ := List.mem_map.mp (List.of_mem_zip hq).1
      rw [← e] at h
      exact ((hf _ (getD_mem (hnk j hj))).lq b0 b7 hb x h).mono l2
    · rw [List.mem_singleton.mp h]
      obtain ⟨j, hj, e⟩ := List.mem_map.mp (List.of_mem_zip hq).2
      rw [← e]
      exact ((hf _ (getD_mem (hnk j hj))).cq b0 b7 hb).neg.mono l2
  · have hk := chs_lt _ n names hm
    have hl := chs_len _ n names hm
    have hr : ∀ r ∈ rowsF fs names, r.length = n := fun r h => by
      obtain ⟨j, hj, rfl⟩ := List.mem_map.mp h
      exact (hf _ (getD_mem (hk j hj))).len
    have hrl : (rowsF fs names).length = n := by unfold rowsF; rw [List.length_map]; exact hl
    have hcl : (negC fs names).length = (rowsF fs names).length := by unfold negC; rw [List.length_map, hrl, hl]
    have hrs : ∀ r ∈ rowsF fs names, ∀ x ∈ r, SmI x := fun r h => by
      obtain ⟨j, hj, rfl⟩ := List.mem_map.mp h
      exact (hf _ (getD_mem (hk j hj))).ln
    have hcs : ∀ x ∈ (negC fs names).map (· / w), Lq 60 1080 x := fun x h => by
      obtain ⟨y, hy, rfl⟩ := List.mem_map.mp h
      obtain ⟨j, hj, rfl⟩ := List.mem_map.mp hy
      obtain ⟨c, h1, h2⟩ := (hf _ (getD_mem (d := ([], 0)) (hk j hj))).c
      rw [h2]
      have : -(c * w) / w = -c := by rw [Rat.div_def, Rat.neg_mul, Rat.mul_assoc, Rat.mul_inv_cancel _ hw, Rat.mul_one]
      rw [this]
      exact h1.neg
    obtain ⟨pl, at_⟩ := sol_at hr hcl hp
    refine ⟨pl, ?_⟩
    by_cases h0 : n = 0
    · subst h0
      rw [List.length_eq_zero_iff.mp pl]
      simp
    have oth : ∀ ds : List Rat, ds.length = n → ∃ q : List Rat, q.length = n ∧ ∀ i, i < n → lin ((rowsF fs names).getD i []) (ent q) = ent ds i := fun ds hd => by
      have := sol_other hr (by omega) hcl (by omega : ds.length = _) hp
      rw [hrl] at this
      exact this
    rw [hrl] at at_ hcl
    have key := corner_at (p := p.map (· / w)) h0 hn hr hrl hrs (by rw [List.length_map]; exact hcl) hcs (by rw [List.length_map]; exact pl) (fun i hi => by
      rw [ent_div, ← at_ i hi, ← lin_smul]
      exact lin_congr fun j _ => ent_div p w j) oth
    intro x hx
    have h1 := (key _ (List.mem_map_of_mem hx)).times hb
    have e : x / w * w = x := by rw [Rat.div_def, Rat.mul_assoc, Rat.inv_mul_cancel _ hw, Rat.mul_one]
    rw [e] at h1
    refine h1.zb ?_ ?_ (by decide +kernel)
    · have : 0 < LV := by decide
      exact Nat.mul_pos this b0
    · exact Nat.le_trans (Nat.mul_le_mul_left _ b7) (by decide +kernel)
end Mp

namespace K04
open PySem PySem.Spec
open PyProof.Rows L2 Mp
def n_quotient : List Str := ["a", "b"]
def d_quotient : MDef := ⟨2, 2, (.cons (.ret (.mk (.cons (.bin .mul (.top (.var 0)) (.bot (.var 1))) (.cons (.bin .mul (.bot (.var 0)) (.top (.var 1))) .nil)))) .nil)⟩
def n_is_less : List Str := ["a", "b"]
def d_is_less : MDef := ⟨2, 2, (.cons (.ret (.cmp .Lt (.bin .mul (.top (.var 0)) (.bot (.var 1))) (.bin .mul (.top (.var 1)) (.bot (.var 0))))) .nil)⟩
def n_is_zero : List Str := ["a"]
def d_is_zero : MDef := ⟨1, 1, (.cons (.ret (.cmp .Eq (.top (.var 0)) (.int 0))) .nil)⟩
def n_is_negative : List Str := ["a"]
def d_is_negative : MDef := ⟨1, 1, (.cons (.ret (.cmp .Lt (.top (.var 0)) (.int 0))) .nil)⟩
def n_total : List Str := ["rows", "found", "row"]
def d_total : MDef := ⟨1, 3, (.cons (.asg (.nm 1) (.mk (.cons (.int 0) .nil))) (.cons (.loop (.nm 2) (.seq (.var 0)) (.cons (.asg (.nm 1) (.bin .add (.var 1) (.var 2))) .nil) [2]) (.cons (.ret (.var 1)) .nil)))⟩
def n_products : List Str := ["first", "second", "a", "b"]
def d_products : MDef := ⟨2, 4, (.cons (.ret (.call "total" (.cons (.lc (.tup [2, 3]) (.zip (.var 0) (.var 1)) .nop (.bin .mul (.var 2) (.var 3))) .nil))) .nil)⟩
def n_come_before : List Str := ["first", "second", "a", "b"]
def d_come_before : MDef := ⟨2, 4, (.cons (.loop (.tup [2, 3]) (.zip (.var 0) (.var 1)) (.cons (.ite (.cmp .NotEq (.var 2) (.var 3)) (.cons (.ret (.call "is_less" (.cons (.var 2) (.cons (.var 3) .nil)))) .nil) .nil) .nil) [2, 3]) (.cons (.ret (.bl false)) .nil))⟩
def n_form_value : List Str := ["form", "point"]
def d_form_value : MDef := ⟨2, 2, (.cons (.ret (.bin .add (.call "products" (.cons (.ix (.var 0) (.int 0)) (.cons (.var 1) .nil))) (.ix (.var 0) (.int 1)))) .nil)⟩
def n_is_inside : List Str := ["region", "point", "form"]
def d_is_inside : MDef := ⟨2, 3, (.cons (.ret (.not (.bi .any (.cons (.lc (.nm 2) (.seq (.var 0)) .nop (.call "is_negative" (.cons (.call "form_value" (.cons (.var 2) (.cons (.var 1) .nil))) .nil))) .nil)))) .nil)⟩
def n_reduced : List Str := ["rows", "left", "row", "done", "leads", "width", "column", "picked", "k", "one", "part"]
def d_reduced : MDef := ⟨1, 11, (.cons (.asg (.nm 1) (.lc (.nm 2) (.seq (.var 0)) .nop (.bi .list (.cons (.var 2) .nil)))) (.cons (.asg (.nm 3) (.lst .nil)) (.cons (.asg (.nm 4) (.lst .nil)) (.cons (.asg (.nm 5) (.ifx (.var 0) (.bi .len (.cons (.ix (.var 0) (.int 0)) .nil)) (.int 0))) (.cons (.loop (.nm 6) (.rng (.var 5)) (.cons (.asg (.nm 7) (.lc (.nm 8) (.rng (.ln (.var 1))) (.not (.call "is_zero" (.cons (.ix (.ix (.var 1) (.var 8)) (.var 6)) .nil))) (.var 8))) (.cons (.ite (.var 7) (.cons (.pop 9 1 (.ix (.var 7) (.int 0))) (.cons (.frz 9) (.cons (.asg (.nm 9) (.lc (.nm 10) (.seq (.var 9)) .nop (.call "quotient" (.cons (.var 10) (.cons (.ix (.var 9) (.var 6)) .nil))))) (.cons (.frz 1) (.cons (.frz 9) (.cons (.asg (.nm 1) (.lc (.nm 2) (.seq (.var 1)) .nop (.call "lessened" (.cons (.var 2) (.cons (.var 9) (.cons (.var 6) .nil)))))) (.cons (.frz 3) (.cons (.frz 9) (.cons (.asg (.nm 3) (.bin .add (.lc (.nm 2) (.seq (.var 3)) .nop (.call "lessened" (.cons (.var 2) (.cons (.var 9) (.cons (.var 6) .nil))))) (.lst (.cons (.var 9) .nil)))) (.cons (.app 4 (.var 6)) .nil)))))))))) .nil) .nil)) [6, 7, 9]) (.cons (.frz 3) (.cons (.frz 4) (.cons (.ret (.tup (.cons (.var 3) (.cons (.var 4) .nil)))) .nil))))))))⟩
def n_lessened : List Str := ["row", "one", "column", "factor", "a", "b"]
def d_lessened : MDef := ⟨3, 6, (.cons (.asg (.nm 3) (.ix (.var 0) (.var 2))) (.cons (.ite (.call "is_zero" (.cons (.var 3) .nil)) (.cons (.ret (.var 0)) .nil) .nil) (.cons (.ret (.lc (.tup [4, 5]) (.zip (.var 0) (.var 1)) .nop (.bin .sub (.var 4) (.bin .mul (.var 3) (.var 5))))) .nil)))⟩
def n_solve : List Str := ["rows", "constants", "width", "done", "leads", "row", "constant"]
def d_solve : MDef := ⟨2, 7, (.cons (.asg (.nm 2) (.bi .len (.cons (.ix (.var 0) (.int 0)) .nil))) (.cons (.asg (.tup [3, 4]) (.call "reduced" (.cons (.fz (.lc (.tup [5, 6]) (.zip (.var 0) (.var 1)) .nop (.bin .add (.bi .list (.cons (.var 5) .nil)) (.lst (.cons (.var 6) .nil))))) .nil))) (.cons (.ite (.cmp .NotEq (.var 4) (.lrg (.var 2))) (.cons (.ret .non) .nil) .nil) (.cons (.ret (.lc (.nm 5) (.seq (.var 3)) .nop (.ix (.var 5) (.var 2)))) .nil))))⟩
def n_choices : List Str := ["many", "size", "found", "_", "longer", "row", "first", "k"]
def d_choices : MDef := ⟨2, 8, (.cons (.asg (.nm 2) (.lst (.cons (.tup .nil) .nil))) (.cons (.loop (.nm 3) (.rng (.var 1)) (.cons (.asg (.nm 4) (.lst .nil)) (.cons (.frz 2) (.cons (.loop (.nm 5) (.seq (.var 2)) (.cons (.asg (.nm 6) (.ifx (.var 5) (.bin .add (.ix (.var 5) (.neg (.int 1))) (.int 1)) (.int 0))) (.cons (.ext 4 (.lc (.nm 7) (.rng2 (.var 6) (.var 0)) .nop (.bin .add (.var 5) (.tup (.cons (.var 7) .nil))))) .nil)) [5, 6]) (.cons (.mv 2 4) .nil)))) [3, 4, 5, 6]) (.cons (.retv 2) .nil)))⟩
def n_in_order : List Str := ["points", "found", "point", "at"]
def d_in_order : MDef := ⟨1, 4, (.cons (.asg (.nm 1) (.lst .nil)) (.cons (.loop (.nm 2) (.seq (.var 0)) (.cons (.asg (.nm 3) (.int 0)) (.cons (.while 100000 (.and (.cmp .Lt (.var 3) (.bi .len (.cons (.var 1) .nil))) (.call "come_before" (.cons (.ix (.var 1) (.var 3)) (.cons (.var 2) .nil)))) (.cons (.aug 3 (.int 1)) .nil) []) (.cons (.ite (.or (.cmp .Eq (.var 3) (.bi .len (.cons (.var 1) .nil))) (.cmp .NotEq (.ix (.var 1) (.var 3)) (.var 2))) (.cons (.ins 1 (.var 3) (.var 2)) .nil) .nil) .nil))) [2, 3]) (.cons (.retv 1) .nil)))⟩
def n_vertices : List Str := ["region", "n", "found", "names", "point", "k"]
def d_vertices : MDef := ⟨2, 6, (.cons (.ite (.cmp .Eq (.var 1) (.int 0)) (.cons (.ite (.call "is_inside" (.cons (.var 0) (.cons (.lst .nil) .nil))) (.cons (.ret (.lst (.cons (.lst .nil) .nil))) .nil) .nil) (.cons (.ret (.lst .nil)) .nil)) .nil) (.cons (.asg (.nm 2) (.lst .nil)) (.cons (.loop (.nm 3) (.seq (.call "choices" (.cons (.bi .len (.cons (.var 0) .nil)) (.cons (.var 1) .nil)))) (.cons (.asg (.nm 4) (.call "solve" (.cons (.lc (.nm 5) (.seq (.var 3)) .nop (.bi .list (.cons (.ix (.ix (.var 0) (.var 5)) (.int 0)) .nil))) (.cons (.lc (.nm 5) (.seq (.var 3)) .nop (.neg (.ix (.ix (.var 0) (.var 5)) (.int 1)))) .nil)))) (.cons (.ite (.and (.cmp .IsNot (.var 4) .non) (.call "is_inside" (.cons (.var 0) (.cons (.var 4) .nil)))) (.cons (.appm 2 4) .nil) .nil) .nil)) [3, 4]) (.cons (.retu "in_order" 2) .nil))))⟩
def n_is_empty : List Str := ["region", "n"]
def d_is_empty : MDef := ⟨2, 2, (.cons (.ret (.not (.call "vertices" (.cons (.var 0) (.cons (.var 1) .nil))))) .nil)⟩
def n__law_stream : List Str := ["_law_script", "_law_mixed", "_law_cell"]
def d__law_stream : MDef := ⟨1, 3, (.cons (.asg (.nm 1) (.int 17)) (.cons (.loop (.nm 2) (.seq (.var 0)) (.cons (.asg (.nm 1) (.bin .mod (.bi .int (.cons (.bin .add (.bin .add (.bin .mul (.var 1) (.int 48271)) (.bin .mod (.bi .int (.cons (.var 2) .nil)) (.int 65521))) (.int 1)) .nil)) (.int 2147483647))) .nil) [2]) (.cons (.ret (.lst (.cons (.bi .list (.cons (.var 0) .nil)) (.cons (.int 0) (.cons (.int 0) (.cons (.var 1) .nil)))))) .nil)))⟩
def n__law_draw : List Str := ["_law_stream_here", "_law_many", "_law_value_here"]
def d__law_draw : MDef := ⟨2, 3, (.cons (.ite (.and (.cmp .Eq (.ix (.var 0) (.int 1)) (.int 0)) (.cmp .Lt (.ix (.var 0) (.int 2)) (.bi .len (.cons (.ix (.var 0) (.int 0)) .nil)))) (.cons (.set1 0 (.int 1) (.bi .abs (.cons (.bi .int (.cons (.ix (.ix (.var 0) (.int 0)) (.ix (.var 0) (.int 2))) .nil)) .nil))) (.cons (.set1 0 (.int 2) (.bin .add (.ix (.var 0) (.int 2)) (.int 1))) .nil)) .nil) (.cons (.ite (.cmp .Eq (.ix (.var 0) (.int 1)) (.int 0)) (.cons (.set1 0 (.int 3) (.bin .mod (.bi .int (.cons (.bin .add (.bin .mul (.ix (.var 0) (.int 3)) (.int 48271)) (.int 11)) .nil)) (.int 2147483647))) (.cons (.ret (.bin .mod (.bi .int (.cons (.bin .fdiv (.ix (.var 0) (.int 3)) (.int 97)) .nil)) (.var 1))) .nil)) .nil) (.cons (.asg (.nm 2) (.bin .mod (.bi .int (.cons (.ix (.var 0) (.int 1)) .nil)) (.var 1))) (.cons (.set1 0 (.int 1) (.bin .fdiv (.ix (.var 0) (.int 1)) (.var 1))) (.cons (.ret (.var 2)) .nil)))))⟩
def n__law_divisor : List Str := ["_law_a", "_law_b", "_law_k"]
def d__law_divisor : MDef := ⟨2, 3, (.cons (.asg (.nm 0) (.bi .abs (.cons (.var 0) .nil))) (.cons (.asg (.nm 1) (.bi .abs (.cons (.var 1) .nil))) (.cons (.loop (.nm 2) (.rng (.int 5000)) (.cons (.ite (.cmp .Eq (.var 1) (.int 0)) (.cons .brk .nil) .nil) (.cons (.par 0 1 (.var 1) (.bin .mod (.bi .int (.cons (.var 0) .nil)) (.var 1))) .nil)) [2]) (.cons (.ret (.var 0)) .nil))))⟩
def n__law_q : List Str := ["_law_n", "_law_d", "_law_divisor_here"]
def d__law_q : MDef := ⟨2, 3, (.cons (.ite (.cmp .Lt (.var 1) (.int 0)) (.cons (.asg (.nm 0) (.neg (.var 0))) (.cons (.asg (.nm 1) (.neg (.var 1))) .nil)) .nil) (.cons (.asg (.nm 2) (.call "_law_divisor" (.cons (.var 0) (.cons (.var 1) .nil)))) (.cons (.ret (.tup (.cons (.bin .fdiv (.var 0) (.var 2)) (.cons (.bin .fdiv (.var 1) (.var 2)) .nil)))) .nil)))⟩
def n__law_add : List Str := ["_law_a", "_law_b"]
def d__law_add : MDef := ⟨2, 2, (.cons (.ret (.call "_law_q" (.cons (.bin .add (.bin .mul (.ix (.var 0) (.int 0)) (.ix (.var 1) (.int 1))) (.bin .mul (.ix (.var 1) (.int 0)) (.ix (.var 0) (.int 1)))) (.cons (.bin .mul (.ix (.var 0) (.int 1)) (.ix (.var 1) (.int 1))) .nil)))) .nil)⟩
def n__law_sub : List Str := ["_law_a", "_law_b"]
def d__law_sub : MDef := ⟨2, 2, (.cons (.ret (.call "_law_q" (.cons (.bin .sub (.bin .mul (.ix (.var 0) (.int 0)) (.ix (.var 1) (.int 1))) (.bin .mul (.ix (.var 1) (.int 0)) (.ix (.var 0) (.int 1)))) (.cons (.bin .mul (.ix (.var 0) (.int 1)) (.ix (.var 1) (.int 1))) .nil)))) .nil)⟩
def n__law_mul : List Str := ["_law_a", "_law_b"]
def d__law_mul : MDef := ⟨2, 2, (.cons (.ret (.call "_law_q" (.cons (.bin .mul (.ix (.var 0) (.int 0)) (.ix (.var 1) (.int 0))) (.cons (.bin .mul (.ix (.var 0) (.int 1)) (.ix (.var 1) (.int 1))) .nil)))) .nil)⟩
def n__law_over : List Str := ["_law_a", "_law_b"]
def d__law_over : MDef := ⟨2, 2, (.cons (.ret (.call "_law_q" (.cons (.bin .mul (.ix (.var 0) (.int 0)) (.ix (.var 1) (.int 1))) (.cons (.bin .mul (.ix (.var 0) (.int 1)) (.ix (.var 1) (.int 0))) .nil)))) .nil)⟩
def n__law_less : List Str := ["_law_a", "_law_b"]
def d__law_less : MDef := ⟨2, 2, (.cons (.ret (.cmp .Lt (.bin .mul (.ix (.var 0) (.int 0)) (.ix (.var 1) (.int 1))) (.bin .mul (.ix (.var 1) (.int 0)) (.ix (.var 0) (.int 1))))) .nil)⟩
def n__law_as : List Str := ["_law_a"]
def d__law_as : MDef := ⟨1, 1, (.cons (.ret (.mk (.cons (.ix (.var 0) (.int 0)) (.cons (.ix (.var 0) (.int 1)) .nil)))) .nil)⟩
def n__law_pair : List Str := ["_law_got"]
def d__law_pair : MDef := ⟨1, 1, (.cons (.ite (.not (.isi (.var 0) .ratio)) (.cons (.ret .non) .nil) .nil) (.cons (.ret (.tup (.cons (.top (.var 0)) (.cons (.bot (.var 0)) .nil)))) .nil))⟩
def n__law_number : List Str := ["_law_stream_here"]
def d__law_number : MDef := ⟨1, 1, (.cons (.ite (.cmp .Eq (.call "_law_draw" (.cons (.var 0) (.cons (.int 2) .nil))) (.int 0)) (.cons (.ret (.tup (.cons (.bin .sub (.call "_law_draw" (.cons (.var 0) (.cons (.int 9) .nil))) (.int 4)) (.cons (.int 1) .nil)))) .nil) .nil) (.cons (.ret (.call "_law_q" (.cons (.bin .sub (.call "_law_draw" (.cons (.var 0) (.cons (.int 19) .nil))) (.int 9)) (.cons (.bin .add (.int 1) (.call "_law_draw" (.cons (.var 0) (.cons (.int 6) .nil)))) .nil)))) .nil))⟩
def n__law_reduced : List Str := ["_law_rows", "_law_width", "_law_left", "_law_row", "_law_done", "_law_leads", "_law_column", "_law_picks_here", "_law_k", "_law_one", "_law_part"]
def d__law_reduced : MDef := ⟨2, 11, (.cons (.asg (.nm 2) (.lc (.nm 3) (.seq (.var 0)) .nop (.bi .list (.cons (.var 3) .nil)))) (.cons (.asg (.nm 4) (.lst .nil)) (.cons (.asg (.nm 5) (.lst .nil)) (.cons (.loop (.nm 6) (.rng (.var 1)) (.cons (.asg (.nm 7) (.lc (.nm 8) (.rng (.ln (.var 2))) (.cmp .NotEq (.ix (.ix (.ix (.var 2) (.var 8)) (.var 6)) (.int 0)) (.int 0)) (.var 8))) (.cons (.ite (.var 7) (.cons (.frz 2) (.cons (.frz 7) (.cons (.asg (.nm 9) (.ix (.var 2) (.ix (.var 7) (.int 0)))) (.cons (.frz 2) (.cons (.frz 7) (.cons (.asg (.nm 2) (.lc (.nm 8) (.rng (.ln (.var 2))) (.cmp .NotEq (.var 8) (.ix (.var 7) (.int 0))) (.ix (.var 2) (.var 8)))) (.cons (.frz 9) (.cons (.asg (.nm 9) (.lc (.nm 10) (.seq (.var 9)) .nop (.call "_law_over" (.cons (.var 10) (.cons (.ix (.var 9) (.var 6)) .nil))))) (.cons (.frz 2) (.cons (.frz 9) (.cons (.asg (.nm 2) (.lc (.nm 3) (.seq (.var 2)) .nop (.call "_law_without" (.cons (.var 3) (.cons (.var 9) (.cons (.var 6) .nil)))))) (.cons (.frz 4) (.cons (.frz 9) (.cons (.asg (.nm 4) (.bin .add (.lc (.nm 3) (.seq (.var 4)) .nop (.call "_law_without" (.cons (.var 3) (.cons (.var 9) (.cons (.var 6) .nil))))) (.lst (.cons (.var 9) .nil)))) (.cons (.app 5 (.var 6)) .nil))))))))))))))) .nil) .nil)) [6, 7, 9]) (.cons (.frz 4) (.cons (.frz 5) (.cons (.ret (.tup (.cons (.var 4) (.cons (.var 5) .nil)))) .nil)))))))⟩
def n__law_without : List Str := ["_law_row", "_law_one", "_law_column", "_law_factor", "_law_k"]
def d__law_without : MDef := ⟨3, 5, (.cons (.asg (.nm 3) (.ix (.var 0) (.var 2))) (.cons (.ite (.cmp .Eq (.ix (.var 3) (.int 0)) (.int 0)) (.cons (.ret (.var 0)) .nil) .nil) (.cons (.ret (.lc (.nm 4) (.rng (.bi .len (.cons (.var 0) .nil))) .nop (.call "_law_sub" (.cons (.ix (.var 0) (.var 4)) (.cons (.call "_law_mul" (.cons (.var 3) (.cons (.ix (.var 1) (.var 4)) .nil))) .nil))))) .nil)))⟩
def n__law_solution : List Str := ["_law_rows", "_law_constants", "_law_width", "_law_done", "_law_leads", "_law_k", "_law_row"]
def d__law_solution : MDef := ⟨2, 7, (.cons (.asg (.nm 2) (.bi .len (.cons (.ix (.var 0) (.int 0)) .nil))) (.cons (.asg (.tup [3, 4]) (.call "_law_reduced" (.cons (.fz (.lc (.nm 5) (.rng (.bi .len (.cons (.var 0) .nil))) .nop (.bin .add (.ix (.var 0) (.var 5)) (.lst (.cons (.ix (.var 1) (.var 5)) .nil))))) (.cons (.bin .add (.var 2) (.int 1)) .nil)))) (.cons (.ite (.cmp .NotEq (.var 4) (.lc (.nm 5) (.rng (.var 2)) .nop (.var 5))) (.cons (.ret .non) .nil) .nil) (.cons (.ret (.lc (.nm 6) (.seq (.var 3)) .nop (.ix (.var 6) (.var 2)))) .nil))))⟩
def n__law_picks : List Str := ["_law_many", "_law_size", "_law_found", "_law_k", "_law_longer", "_law_row", "_law_j"]
def d__law_picks : MDef := ⟨2, 7, (.cons (.asg (.nm 2) (.lst (.cons (.tup .nil) .nil))) (.cons (.loop (.nm 3) (.rng (.var 1)) (.cons (.asg (.nm 4) (.lst .nil)) (.cons (.frz 2) (.cons (.loop (.nm 5) (.seq (.var 2)) (.cons (.asg (.nm 4) (.bin .add (.var 4) (.lc (.nm 6) (.rng2 (.bin .add (.ix (.bin .add (.lst (.cons (.neg (.int 1)) .nil)) (.bi .list (.cons (.var 5) .nil))) (.neg (.int 1))) (.int 1)) (.var 0)) .nop (.bin .add (.var 5) (.tup (.cons (.var 6) .nil)))))) .nil) [5]) (.cons (.mv 2 4) .nil)))) [3, 4, 5]) (.cons (.retv 2) .nil)))⟩
def n__law_value : List Str := ["_law_form", "_law_point_here", "_law_found", "_law_k"]
def d__law_value : MDef := ⟨2, 4, (.cons (.asg (.nm 2) (.ix (.var 0) (.int 1))) (.cons (.loop (.nm 3) (.rng (.bi .len (.cons (.var 1) .nil))) (.cons (.asg (.nm 2) (.call "_law_add" (.cons (.var 2) (.cons (.call "_law_mul" (.cons (.ix (.ix (.var 0) (.int 0)) (.var 3)) (.cons (.ix (.var 1) (.var 3)) .nil))) .nil)))) .nil) [3]) (.cons (.ret (.var 2)) .nil)))⟩
def n__law_inside : List Str := ["_law_region_here", "_law_point_here", "_law_form"]
def d__law_inside : MDef := ⟨2, 3, (.cons (.ret (.bi .all (.cons (.lc (.nm 2) (.seq (.var 0)) .nop (.cmp .GtE (.ix (.call "_law_value" (.cons (.var 2) (.cons (.var 1) .nil))) (.int 0)) (.int 0))) .nil))) .nil)⟩
def n__law_unit : List Str := ["_law_n", "_law_k", "_law_sign", "_law_j"]
def d__law_unit : MDef := ⟨3, 4, (.cons (.ret (.bi .tuple (.cons (.lc (.nm 3) (.rng (.var 0)) .nop (.tup (.cons (.bin .mul (.var 2) (.bi .int (.cons (.cmp .Eq (.var 3) (.var 1)) .nil))) (.cons (.int 1) .nil)))) .nil))) .nil)⟩
def n__law_region : List Str := ["_law_stream_here", "_law_n", "_law_region_here", "_law_k", "_law_low", "_law_high", "_law_j"]
def d__law_region : MDef := ⟨2, 7, (.cons (.asg (.nm 2) (.lst .nil)) (.cons (.loop (.nm 3) (.rng (.var 1)) (.cons (.asg (.nm 4) (.call "_law_number" (.cons (.var 0) .nil))) (.cons (.asg (.nm 5) (.call "_law_add" (.cons (.var 4) (.cons (.tup (.cons (.bin .sub (.call "_law_draw" (.cons (.var 0) (.cons (.int 6) .nil))) (.bi .int (.cons (.cmp .Eq (.call "_law_draw" (.cons (.var 0) (.cons (.int 12) .nil))) (.int 0)) .nil))) (.cons (.bin .add (.int 1) (.call "_law_draw" (.cons (.var 0) (.cons (.int 2) .nil)))) .nil))) .nil)))) (.cons (.app 2 (.tup (.cons (.call "_law_unit" (.cons (.var 1) (.cons (.var 3) (.cons (.int 1) .nil)))) (.cons (.tup (.cons (.neg (.ix (.var 4) (.int 0))) (.cons (.ix (.var 4) (.int 1)) .nil))) .nil)))) (.cons (.app 2 (.tup (.cons (.call "_law_unit" (.cons (.var 1) (.cons (.var 3) (.cons (.neg (.int 1)) .nil)))) (.cons (.var 5) .nil)))) .nil)))) [3, 4, 5]) (.cons (.loop (.nm 3) (.rng (.call "_law_draw" (.cons (.var 0) (.cons (.int 3) .nil)))) (.cons (.app 2 (.tup (.cons (.bi .tuple (.cons (.lc (.nm 6) (.rng (.var 1)) .nop (.tup (.cons (.bin .sub (.call "_law_draw" (.cons (.var 0) (.cons (.int 5) .nil))) (.int 2)) (.cons (.int 1) .nil)))) .nil)) (.cons (.call "_law_number" (.cons (.var 0) .nil)) .nil)))) .nil) [3, 6]) (.cons (.ite (.cmp .Eq (.call "_law_draw" (.cons (.var 0) (.cons (.int 3) .nil))) (.int 0)) (.cons (.frz 2) (.cons (.asg (.nm 2) (.rev (.var 2))) .nil)) .nil) (.cons (.retv 2) .nil)))))⟩
def n__law_form_as : List Str := ["_law_form", "_law_a"]
def d__law_form_as : MDef := ⟨1, 2, (.cons (.ret (.tup (.cons (.bi .tuple (.cons (.lc (.nm 1) (.seq (.ix (.var 0) (.int 0))) .nop (.call "_law_as" (.cons (.var 1) .nil))) .nil)) (.cons (.call "_law_as" (.cons (.ix (.var 0) (.int 1)) .nil)) .nil)))) .nil)⟩
def n__law_region_as : List Str := ["_law_region_here", "_law_form"]
def d__law_region_as : MDef := ⟨1, 2, (.cons (.ret (.bi .tuple (.cons (.lc (.nm 1) (.seq (.var 0)) .nop (.call "_law_form_as" (.cons (.var 1) .nil))) .nil))) .nil)⟩
def n__law_point : List Str := ["_law_got", "_law_part"]
def d__law_point : MDef := ⟨1, 2, (.cons (.ite (.not (.isi (.var 0) .list)) (.cons (.ret .non) .nil) .nil) (.cons (.ret (.lc (.nm 1) (.seq (.var 0)) .nop (.call "_law_pair" (.cons (.var 1) .nil)))) .nil))⟩
def n__law_before : List Str := ["_law_first", "_law_second", "_law_k"]
def d__law_before : MDef := ⟨2, 3, (.cons (.loop (.nm 2) (.rng (.bi .len (.cons (.var 0) .nil))) (.cons (.ite (.cmp .NotEq (.ix (.var 0) (.var 2)) (.ix (.var 1) (.var 2))) (.cons (.ret (.call "_law_less" (.cons (.ix (.var 0) (.var 2)) (.cons (.ix (.var 1) (.var 2)) .nil)))) .nil) .nil) .nil) [2]) (.cons (.ret (.bl false)) .nil))⟩
def n__law_corners : List Str := ["_law_region_here", "_law_n", "_law_found", "_law_names", "_law_rows", "_law_k", "_law_point_here", "_law_at", "_law_one"]
def d__law_corners : MDef := ⟨2, 9, (.cons (.ite (.cmp .Eq (.var 1) (.int 0)) (.cons (.ret (.bin .mul (.fz (.lst (.cons (.lst .nil) .nil))) (.bi .int (.cons (.call "_law_inside" (.cons (.var 0) (.cons (.lst .nil) .nil))) .nil)))) .nil) .nil) (.cons (.asg (.nm 2) (.lst .nil)) (.cons (.loop (.nm 3) (.seq (.call "_law_picks" (.cons (.bi .len (.cons (.var 0) .nil)) (.cons (.var 1) .nil)))) (.cons (.asg (.nm 4) (.lc (.nm 5) (.seq (.var 3)) .nop (.bi .list (.cons (.ix (.ix (.var 0) (.var 5)) (.int 0)) .nil)))) (.cons (.asg (.nm 6) (.call "_law_solution" (.cons (.var 4) (.cons (.lc (.nm 5) (.seq (.var 3)) .nop (.tup (.cons (.neg (.ix (.ix (.ix (.var 0) (.var 5)) (.int 1)) (.int 0))) (.cons (.ix (.ix (.ix (.var 0) (.var 5)) (.int 1)) (.int 1)) .nil)))) .nil)))) (.cons (.ite (.and (.cmp .IsNot (.var 6) .non) (.and (.call "_law_inside" (.cons (.var 0) (.cons (.var 6) .nil))) (.cmp .NotIn (.var 6) (.var 2)))) (.cons (.frz 2) (.cons (.asg (.nm 7) (.bi .len (.cons (.lc (.nm 8) (.seq (.var 2)) (.call "_law_before" (.cons (.var 8) (.cons (.var 6) .nil))) (.var 8)) .nil))) (.cons (.frz 6) (.cons (.asg (.nm 2) (.bin .add (.bin .add (.sl (.var 2) .nop (.var 7)) (.lst (.cons (.var 6) .nil))) (.sl (.var 2) (.var 7) .nop))) .nil)))) .nil) .nil))) [3, 4, 6, 7]) (.cons (.retv 2) .nil))))⟩
def n_law : List Str := ["_law_script", "_law_stream_here", "_law_n", "_law_region_here", "_law_k", "_law_bounded", "_law_big", "_law_form", "_law_value_here", "_law_due", "_law_actual", "_law_point_here"]
def d_rest : MSs := (.cons (.asg (.nm 2) (.ix (.lst (.cons (.int 1) (.cons (.int 2) (.cons (.int 2) (.cons (.int 2) (.cons (.int 3) (.cons (.int 0) .nil))))))) (.call "_law_draw" (.cons (.var 1) (.cons (.int 6) .nil))))) (.cons (.asg (.nm 3) (.call "_law_region" (.cons (.var 1) (.cons (.var 2) .nil)))) (.cons (.ite (.cmp .Eq (.var 2) (.int 0)) (.cons (.asg (.nm 3) (.lc (.nm 4) (.rng (.call "_law_draw" (.cons (.var 1) (.cons (.int 3) .nil)))) .nop (.tup (.cons (.tup .nil) (.cons (.call "_law_number" (.cons (.var 1) .nil)) .nil))))) .nil) .nil) (.cons (.ite (.and (.var 3) (.cmp .Eq (.call "_law_draw" (.cons (.var 1) (.cons (.int 5) .nil))) (.int 0))) (.cons (.asg (.nm 3) (.bin .add (.var 3) (.sl (.var 3) .nop (.int 1)))) .nil) .nil) (.cons (.asg (.nm 5) (.bl true)) (.cons (.ite (.and (.cmp .Gt (.var 2) (.int 0)) (.cmp .Eq (.call "_law_draw" (.cons (.var 1) (.cons (.int 4) .nil))) (.int 0))) (.cons (.asg (.nm 3) (.sl (.var 3) (.call "_law_draw" (.cons (.var 1) (.cons (.bin .add (.bin .mul (.int 2) (.var 2)) (.int 1)) .nil))) .nop)) (.cons (.asg (.nm 5) (.bl false)) .nil)) .nil) (.cons (.ite (.cmp .Eq (.call "_law_draw" (.cons (.var 1) (.cons (.int 8) .nil))) (.int 0)) (.cons (.asg (.nm 6) (.tup (.cons (.bin .add (.bin .pow (.int 10) (.int 40)) (.call "_law_draw" (.cons (.var 1) (.cons (.bin .pow (.int 10) (.int 9)) .nil)))) (.cons (.bin .add (.int 1) (.call "_law_draw" (.cons (.var 1) (.cons (.int 7) .nil)))) .nil)))) (.cons (.frz 3) (.cons (.asg (.nm 3) (.lc (.nm 7) (.seq (.var 3)) .nop (.tup (.cons (.ix (.var 7) (.int 0)) (.cons (.call "_law_mul" (.cons (.ix (.var 7) (.int 1)) (.cons (.call "_law_q" (.cons (.ix (.var 6) (.int 0)) (.cons (.ix (.var 6) (.int 1)) .nil))) .nil))) .nil))))) .nil))) .nil) (.cons (.asg (.nm 8) (.call "_law_region_as" (.cons (.var 3) .nil))) (.cons (.frz 3) (.cons (.asg (.nm 9) (.call "_law_corners" (.cons (.var 3) (.cons (.var 2) .nil)))) (.cons (.asg (.nm 10) (.call "vertices" (.cons (.var 8) (.cons (.var 2) .nil)))) (.cons (.iteF 10 (.or (.not (.isi (.var 10) .list)) (.cmp .NotEq (.lc (.nm 11) (.seq (.var 10)) .nop (.call "_law_point" (.cons (.var 11) .nil))) (.var 9))) (.cons (.ret (.bl false)) .nil) .nil) (.cons (.ite (.and (.var 5) (.cmp .NotEq (.bi .repr (.cons (.call "is_empty" (.cons (.var 8) (.cons (.var 2) .nil))) .nil)) (.bi .repr (.cons (.cmp .Eq (.var 9) (.lst .nil)) .nil)))) (.cons (.ret (.bl false)) .nil) .nil) (.cons (.spoil0 11 10) (.cons (.app 10 (.int 0)) (.cons (.ite (.cmp .NotEq (.lc (.nm 11) (.seq (.fz (.call "vertices" (.cons (.var 8) (.cons (.var 2) .nil))))) .nop (.call "_law_point" (.cons (.var 11) .nil))) (.var 9)) (.cons (.ret (.bl false)) .nil) .nil) (.cons (.frz 10) (.cons (.ret (.and (.cmp .Eq (.bi .len (.cons (.var 10) .nil)) (.bin .add (.bi .len (.cons (.var 9) .nil)) (.int 1))) (.bi .all (.cons (.lc (.nm 11) (.seq (.sl (.var 10) .nop (.neg (.int 1)))) .nop (.cmp .Eq (.bi .len (.cons (.var 11) .nil)) (.bin .add (.var 2) (.int 1)))) .nil)))) .nil))))))))))))))))))
def gam : List (String × MDef) := [("quotient", d_quotient), ("is_less", d_is_less), ("is_zero", d_is_zero), ("is_negative", d_is_negative), ("total", d_total), ("products", d_products), ("come_before", d_come_before), ("form_value", d_form_value), ("is_inside", d_is_inside), ("reduced", d_reduced), ("lessened", d_lessened), ("solve", d_solve), ("choices", d_choices), ("in_order", d_in_order), ("vertices", d_vertices), ("is_empty", d_is_empty), ("_law_stream", d__law_stream), ("_law_draw", d__law_draw), ("_law_divisor", d__law_divisor), ("_law_q", d__law_q), ("_law_add", d__law_add), ("_law_sub", d__law_sub), ("_law_mul", d__law_mul), ("_law_over", d__law_over), ("_law_less", d__law_less), ("_law_as", d__law_as), ("_law_pair", d__law_pair), ("_law_number", d__law_number), ("_law_reduced", d__law_reduced), ("_law_without", d__law_without), ("_law_solution", d__law_solution), ("_law_picks", d__law_picks), ("_law_value", d__law_value), ("_law_inside", d__law_inside), ("_law_unit", d__law_unit), ("_law_region", d__law_region), ("_law_form_as", d__law_form_as), ("_law_region_as", d__law_region_as), ("_law_point", d__law_point), ("_law_before", d__law_before), ("_law_corners", d__law_corners)]
def Γ : String → Option MDef := fun f => gam.lookup f
def Gs : String → Option Int := fun x => none
def top (i : Nat) : Stmt := PySem.Challenge.pw_traproom_k04_vertices.main.body.getD i (.Pass ⟨0, 0, 0, 0⟩)
def fa : List He.Fa := [.glo "quotient", .glo "is_less", .glo "is_zero", .glo "is_negative", .glo "total", .glo "products", .glo "come_before", .glo "form_value", .glo "is_inside", .glo "reduced", .glo "lessened", .glo "solve", .glo "choices", .glo "in_order", .glo "vertices", .glo "is_empty", .glo "_law_stream", .glo "_law_draw", .glo "_law_divisor", .glo "_law_q", .glo "_law_add", .glo "_law_sub", .glo "_law_mul", .glo "_law_over", .glo "_law_less", .glo "_law_as", .glo "_law_pair", .glo "_law_number", .glo "_law_reduced", .glo "_law_without", .glo "_law_solution", .glo "_law_picks", .glo "_law_value", .glo "_law_inside", .glo "_law_unit", .glo "_law_region", .glo "_law_form_as", .glo "_law_region_as", .glo "_law_point", .glo "_law_before", .glo "_law_corners", .glo "law"]
def fnM : List He.DefD := [dMod "quotient" (top 6), dMod "is_less" (top 7), dMod "is_zero" (top 8), dMod "is_negative" (top 9), dMod "total" (top 10), dMod "products" (top 11), dMod "come_before" (top 12), dMod "form_value" (top 14), dMod "is_inside" (top 15), dMod "reduced" (top 16), dMod "lessened" (top 17), dMod "solve" (top 18), dMod "choices" (top 19), dMod "in_order" (top 20), dMod "vertices" (top 21), dMod "is_empty" (top 22), dMod "_law_stream" (top 24), dMod "_law_draw" (top 25), dMod "_law_divisor" (top 26), dMod "_law_q" (top 27), dMod "_law_add" (top 28), dMod "_law_sub" (top 29), dMod "_law_mul" (top 30), dMod "_law_over" (top 31), dMod "_law_less" (top 32), dMod "_law_as" (top 33), dMod "_law_pair" (top 34), dMod "_law_number" (top 35), dMod "_law_reduced" (top 36), dMod "_law_without" (top 37), dMod "_law_solution" (top 38), dMod "_law_picks" (top 39), dMod "_law_value" (top 40), dMod "_law_inside" (top 41), dMod "_law_unit" (top 42), dMod "_law_region" (top 43), dMod "_law_form_as" (top 44), dMod "_law_region_as" (top 45), dMod "_law_point" (top 46), dMod "_law_before" (top 47), dMod "_law_corners" (top 48), dMod "law" (top 49)]
def fa' : List He.Fa := faR ++ fa
def fn' : List He.DefD := fnR (top 4) (top 5) ++ fnM
theorem e_quotient : embSs n_quotient Γ Gs (defScope (top 6)) d_quotient.body (defBody (top 6)) = true := by decide +kernel
theorem e_is_less : embSs n_is_less Γ Gs (defScope (top 7)) d_is_less.body (defBody (top 7)) = true := by decide +kernel
theorem e_is_zero : embSs n_is_zero Γ Gs (defScope (top 8)) d_is_zero.body (defBody (top 8)) = true := by decide +kernel
theorem e_is_negative : embSs n_is_negative Γ Gs (defScope (top 9)) d_is_negative.body (defBody (top 9)) = true := by decide +kernel
theorem e_total : embSs n_total Γ Gs (defScope (top 10)) d_total.body (defBody (top 10)) = true := by decide +kernel
theorem e_products : embSs n_products Γ Gs (defScope (top 11)) d_products.body (defBody (top 11)) = true := by decide +kernel
theorem e_come_before : embSs n_come_before Γ Gs (defScope (top 12)) d_come_before.body (defBody (top 12)) = true := by decide +kernel
theorem e_form_value : embSs n_form_value Γ Gs (defScope (top 14)) d_form_value.body (defBody (top 14)) = true := by decide +kernel
theorem e_is_inside : embSs n_is_inside Γ Gs (defScope (top 15)) d_is_inside.body (defBody (top 15)) = true := by decide +kernel
theorem e_reduced : embSs n_reduced Γ Gs (defScope (top 16)) d_reduced.body (defBody (top 16)) = true := by decide +kernel
theorem e_lessened : embSs n_lessened Γ Gs (defScope (top 17)) d_lessened.body (defBody (top 17)) = true := by decide +kernel
theorem e_solve : embSs n_solve Γ Gs (defScope (top 18)) d_solve.body (defBody (top 18)) = true := by decide +kernel
theorem e_choices : embSs n_choices Γ Gs (defScope (top 19)) d_choices.body (defBody (top 19)) = true := by decide +kernel
theorem e_in_order : embSs n_in_order Γ Gs (defScope (top 20)) d_in_order.body (defBody (top 20)) = true := by decide +kernel
theorem e_vertices : embSs n_vertices Γ Gs (defScope (top 21)) d_vertices.body (defBody (top 21)) = true := by decide +kernel
theorem e_is_empty : embSs n_is_empty Γ Gs (defScope (top 22)) d_is_empty.body (defBody (top 22)) = true := by decide +kernel
theorem e__law_stream : embSs n__law_stream Γ Gs (defScope (top 24)) d__law_stream.body (defBody (top 24)) = true := by decide +kernel
theorem e__law_draw : embSs n__law_draw Γ Gs (defScope (top 25)) d__law_draw.body (defBody (top 25)) = true := by decide +kernel
theorem e__law_divisor : embSs n__law_divisor Γ Gs (defScope (top 26)) d__law_divisor.body (defBody (top 26)) = true := by decide +kernel
theorem e__law_q : embSs n__law_q Γ Gs (defScope (top 27)) d__law_q.body (defBody (top 27)) = true := by decide +kernel
theorem e__law_add : embSs n__law_add Γ Gs (defScope (top 28)) d__law_add.body (defBody (top 28)) = true := by decide +kernel
theorem e__law_sub : embSs n__law_sub Γ Gs (defScope (top 29)) d__law_sub.body (defBody (top 29)) = true := by decide +kernel
theorem e__law_mul : embSs n__law_mul Γ Gs (defScope (top 30)) d__law_mul.body (defBody (top 30)) = true := by decide +kernel
theorem e__law_over : embSs n__law_over Γ Gs (defScope (top 31)) d__law_over.body (defBody (top 31)) = true := by decide +kernel
theorem e__law_less : embSs n__law_less Γ Gs (defScope (top 32)) d__law_less.body (defBody (top 32)) = true := by decide +kernel
theorem e__law_as : embSs n__law_as Γ Gs (defScope (top 33)) d__law_as.body (defBody (top 33)) = true := by decide +kernel
theorem e__law_pair : embSs n__law_pair Γ Gs (defScope (top 34)) d__law_pair.body (defBody (top 34)) = true := by decide +kernel
theorem e__law_number : embSs n__law_number Γ Gs (defScope (top 35)) d__law_number.body (defBody (top 35)) = true := by decide +kernel
theorem e__law_reduced : embSs n__law_reduced Γ Gs (defScope (top 36)) d__law_reduced.body (defBody (top 36)) = true := by decide +kernel
theorem e__law_without : embSs n__law_without Γ Gs (defScope (top 37)) d__law_without.body (defBody (top 37)) = true := by decide +kernel
theorem e__law_solution : embSs n__law_solution Γ Gs (defScope (top 38)) d__law_solution.body (defBody (top 38)) = true := by decide +kernel
theorem e__law_picks : embSs n__law_picks Γ Gs (defScope (top 39)) d__law_picks.body (defBody (top 39)) = true := by decide +kernel
theorem e__law_value : embSs n__law_value Γ Gs (defScope (top 40)) d__law_value.body (defBody (top 40)) = true := by decide +kernel
theorem e__law_inside : embSs n__law_inside Γ Gs (defScope (top 41)) d__law_inside.body (defBody (top 41)) = true := by decide +kernel
theorem e__law_unit : embSs n__law_unit Γ Gs (defScope (top 42)) d__law_unit.body (defBody (top 42)) = true := by decide +kernel
theorem e__law_region : embSs n__law_region Γ Gs (defScope (top 43)) d__law_region.body (defBody (top 43)) = true := by decide +kernel
theorem e__law_form_as : embSs n__law_form_as Γ Gs (defScope (top 44)) d__law_form_as.body (defBody (top 44)) = true := by decide +kernel
theorem e__law_region_as : embSs n__law_region_as Γ Gs (defScope (top 45)) d__law_region_as.body (defBody (top 45)) = true := by decide +kernel
theorem e__law_point : embSs n__law_point Γ Gs (defScope (top 46)) d__law_point.body (defBody (top 46)) = true := by decide +kernel
theorem e__law_before : embSs n__law_before Γ Gs (defScope (top 47)) d__law_before.body (defBody (top 47)) = true := by decide +kernel
theorem e__law_corners : embSs n__law_corners Γ Gs (defScope (top 48)) d__law_corners.body (defBody (top 48)) = true := by decide +kernel
theorem e_law : embSs n_law Γ Gs (defScope (top 49)) (.cons (.asg (.nm 1) (.call "_law_stream" (.cons (.var 0) .nil))) d_rest) (defBody (top 49)) = true := by decide +kernel
section
variable {P : Program} {w : World} {K : PySem.W.Frag} {h : Heap} {mg : Str → Option Value} {base : Heap}
theorem rt (X : K.In h) (G : h.Ns mainGlobals mg) (c : He.SaysD fa' fn' K) (ex : exR K = true) : Rt P w K mg base (He.ga K "Ratio") Gs := by
  have fr : ∀ f ∈ faR, f.ok K = true := fun f hf => says_fact c (List.mem_append_left _ hf)
  unfold exR at ex
  simp only [Bool.and_eq_true, decide_eq_true_eq, List.all_eq_true] at ex
  obtain ⟨⟨x1, x2, x3, x4⟩, x5, x6, x7, x8⟩ := ex
  have gR : mg "Ratio" = some (.ref (He.ga K "Ratio")) := He.glo_ok X G (fr (.glo "Ratio") (by simp [faR]))
  have gG : mg "greatest_divisor" = some (.ref (He.ga K "greatest_divisor")) := He.glo_ok X G (fr (.glo "greatest_divisor") (by simp [faR]))
  have rc : Rc K (He.ga K "Ratio") := ⟨He.cls_ok (fr (.cls "Ratio") (by simp [faR])), ⟨x1, x2, x3, x4⟩, He.noat_ok (fr (.noat "Ratio" "top") (by simp [faR])), He.noat_ok (fr (.noat "Ratio" "bottom") (by simp [faR]))⟩
  have free : ∀ x ∈ blt, mg x = none := fun x hx => He.free_ok X G (fr (.free x) (List.mem_append_left _ (List.mem_map_of_mem hx)))
  have mAdd := He.meth_ok (fr (.meth "Ratio" "__add__") (by simp [faR]))
  have mSub := He.meth_ok (fr (.meth "Ratio" "__sub__") (by simp [faR]))
  have mMul := He.meth_ok (fr (.meth "Ratio" "__mul__") (by simp [faR]))
  have mNeg := He.meth_ok (fr (.meth "Ratio" "__neg__") (by simp [faR]))
  have mEq := He.meth_ok (fr (.meth "Ratio" "__eq__") (by simp [faR]))
  have mNe := He.meth_ok (fr (.meth "Ratio" "__ne__") (by simp [faR]))
  have mMk := He.mkr_ok (fr (.mkr "Ratio") (by simp [faR]))
  obtain ⟨fg, FG⟩ := c.def_ 0 (d := dMod "greatest_divisor" (top 4)) rfl
  obtain ⟨fi, FI⟩ := c.def_ 1 (d := dMet "__init__" "Ratio.__init__" (kid (top 5) 0) [.int 1]) rfl
  obtain ⟨fe, FE⟩ := c.def_ 2 (d := dMet "__eq__" "Ratio.__eq__" (kid (top 5) 1) []) rfl
  obtain ⟨fne, FNE⟩ := c.def_ 3 (d := dMet "__ne__" "Ratio.__ne__" (kid (top 5) 2) []) rfl
  obtain ⟨fad, FAD⟩ := c.def_ 4 (d := dMet "__add__" "Ratio.__add__" (kid (top 5) 3) []) rfl
  obtain ⟨fsu, FSU⟩ := c.def_ 5 (d := dMet "__sub__" "Ratio.__sub__" (kid (top 5) 4) []) rfl
  obtain ⟨fmu, FMU⟩ := c.def_ 6 (d := dMet "__mul__" "Ratio.__mul__" (kid (top 5) 5) []) rfl
  obtain ⟨fnu, FNU⟩ := c.def_ 7 (d := dMet "__neg__" "Ratio.__neg__" (kid (top 5) 6) []) rfl
  have bG : Binds K fg ["a", "b"] [] := FunD.bindsN (ps := ["a", "b"]) FG fun _ _ _ _ _ _ us hl => match us, hl with | [_, _], _ => rfl
  have OG : FnOk P w K mg base CX0 1 (He.fAd K ("greatest_divisor", none)) fg ["a", "b"] spGcd := ok_gcd FG (scQ_ok (by decide +kernel)) (by decide +kernel) (by decide +kernel) (by decide +kernel) (by decide +kernel) (free "abs" (by decide +kernel))
  have OI : FnOk P w K mg base CX0 2 (He.ma K (He.ga K "Ratio") "__init__") fi ["self", "n", "d"] (spInit (He.ga K "Ratio")) := ok_init FI (scQ_ok (by decide +kernel)) (by decide +kernel) (by decide +kernel) (by decide +kernel) OG gG FG.kp bG rc.cls rc.nt rc.nb
  have b0 : Binds K fi ["self", "n", "d"] [] := by
    obtain ⟨ds, v, b⟩ := FunD.binds1 (ps := ["self", "n", "d"]) FI 3 1 (by simp [He.DefD.dvs, dMet]) rfl fun T kV doc pm an cdv ct us its hl hl2 => match us, its, hl, hl2 with | [_, _, _], [_], _, _ => ⟨_, rfl, rfl⟩
    cases v
    exact b
  obtain ⟨ds, v1, b1⟩ := FunD.binds1 (ps := ["self", "n", "d"]) FI 2 0 (by simp [He.DefD.dvs, dMet]) rfl fun T kV doc pm an cdv ct us its hl hl2 => match us, its, hl, hl2 with | [_, _], [_], _, _ => ⟨_, rfl, rfl⟩
  have M : RMk P w K mg base (He.ga K "Ratio") := ⟨⟨_, fi, ds, mMk, OI, b0, b1, v1⟩, gR⟩
  have z2 : ∀ {sc : Scope}, (scQ two two sc && (visC sc "self" && (visC sc "other" && glC sc "Ratio"))) = true → Sc2 sc := fun h => by
    simp only [Bool.and_eq_true] at h
    exact ⟨scQ_ok h.1, h.2.1, h.2.2.1, h.2.2.2⟩
  have OE := ok_eq (P := P) (w := w) (base := base) rc x6 x5 gR (free "isinstance" (by decide +kernel)) FE (z2 (by decide +kernel)) (by decide +kernel)
  have ME : MethOk P w K mg base (He.ga K "Ratio") "__eq__" 1 (spRel K (He.ga K "Ratio") false) := ⟨⟨_, fe, two, OE, mEq.at_, mEq.fn, FunD.bindsN (ps := two) FE fun _ _ _ _ _ _ us hl => match us, hl with | [_, _], _ => rfl⟩⟩
  exact
    { free := free, gl := fun x i hx => (by cases (show none = some i from hx)), rc := rc, isT := x5, isC := x6, isB := x7, first := x8, rmk := M,
      add := ⟨⟨_, fad, two, ok_add M rc FAD (z2 (by decide +kernel)), mAdd.at_, mAdd.fn, FunD.bindsN (ps := two) FAD fun _ _ _ _ _ _ us hl => match us, hl with | [_, _], _ => rfl⟩⟩,
      sub := ⟨⟨_, fsu, two, ok_sub M rc FSU (z2 (by decide +kernel)), mSub.at_, mSub.fn, FunD.bindsN (ps := two) FSU fun _ _ _ _ _ _ us hl => match us, hl with | [_, _], _ => rfl⟩⟩,
      mul := ⟨⟨_, fmu, two, ok_mul M rc FMU (z2 (by decide +kernel)), mMul.at_, mMul.fn, FunD.bindsN (ps := two) FMU fun _ _ _ _ _ _ us hl => match us, hl with | [_, _], _ => rfl⟩⟩,
      neg := ⟨⟨_, fnu, one, ok_neg M rc FNU (scQ_ok (by decide +kernel)) (by decide +kernel) (by decide +kernel), mNeg.at_, mNeg.fn, FunD.bindsN (ps := one) FNU fun _ _ _ _ _ _ us hl => match us, hl with | [_], _ => rfl⟩⟩,
      eq := ME,
      ne := ⟨⟨_, fne, two, ok_ne (Nat.le_refl 1) FNE ME (scQ_ok (by decide +kernel)) (by decide +kernel) (by decide +kernel), mNe.at_, mNe.fn, FunD.bindsN (ps := two) FNE fun _ _ _ _ _ _ us hl => match us, hl with | [_, _], _ => rfl⟩⟩ }
theorem defs (X : K.In h) (G : h.Ns mainGlobals mg) (c : He.SaysD fa' fn' K) : ∀ f md, Γ f = some md → DefOk K mg Γ Gs f md := by
  have key : ∀ q ∈ gam, DefOk K mg Γ Gs q.1 q.2 := by
    intro q hq
    simp only [gam, List.mem_cons, List.not_mem_nil, or_false] at hq
    rcases hq with rfl | rfl | rfl | rfl | rfl | rfl | rfl | rfl | rfl | rfl | rfl | rfl | rfl | rfl | rfl | rfl | rfl | rfl | rfl | rfl | rfl | rfl | rfl | rfl | rfl | rfl | rfl | rfl | rfl | rfl | rfl | rfl | rfl | rfl | rfl | rfl | rfl | rfl | rfl | rfl | rfl
    · exact defok_of (N := n_quotient) (ps := ["a", "b"]) (st := top 6) X G c (List.mem_append_right _ (by simp [fnM])) (List.mem_append_right _ (by simp [fa])) (by decide +kernel) rfl rfl (fun _ _ _ _ _ _ us hl => match us, hl with | [_, _], _ => rfl) e_quotient
    · exact defok_of (N := n_is_less) (ps := ["a", "b"]) (st := top 7) X G c (List.mem_append_right _ (by simp [fnM])) (List.mem_append_right _ (by simp [fa])) (by decide +kernel) rfl rfl (fun _ _ _ _ _ _ us hl => match us, hl with | [_, _], _ => rfl) e_is_less
    · exact defok_of (N := n_is_zero) (ps := ["a"]) (st := top 8) X G c (List.mem_append_right _ (by simp [fnM])) (List.mem_append_right _ (by simp [fa])) (by decide +kernel) rfl rfl (fun _ _ _ _ _ _ us hl => match us, hl with | [_], _ => rfl) e_is_zero
    · exact defok_of (N := n_is_negative) (ps := ["a"]) (st := top 9) X G c (List.mem_append_right _ (by simp [fnM])) (List.mem_append_right _ (by simp [fa])) (by decide +kernel) rfl rfl (fun _ _ _ _ _ _ us hl => match us, hl with | [_], _ => rfl) e_is_negative
    · exact defok_of (N := n_total) (ps := ["rows"]) (st := top 10) X G c (List.mem_append_right _ (by simp [fnM])) (List.mem_append_right _ (by simp [fa])) (by decide +kernel) rfl rfl (fun _ _ _ _ _ _ us hl => match us, hl with | [_], _ => rfl) e_total
    · exact defok_of (N := n_products) (ps := ["first", "second"]) (st := top 11) X G c (List.mem_append_right _ (by simp [fnM])) (List.mem_append_right _ (by simp [fa])) (by decide +kernel) rfl rfl (fun _ _ _ _ _ _ us hl => match us, hl with | [_, _], _ => rfl) e_products
    · exact defok_of (N := n_come_before) (ps := ["first", "second"]) (st := top 12) X G c (List.mem_append_right _ (by simp [fnM])) (List.mem_append_right _ (by simp [fa])) (by decide +kernel) rfl rfl (fun _ _ _ _ _ _ us hl => match us, hl with | [_, _], _ => rfl) e_come_before
    · exact defok_of (N := n_form_value) (ps := ["form", "point"]) (st := top 14) X G c (List.mem_append_right _ (by simp [fnM])) (List.mem_append_right _ (by simp [fa])) (by decide +kernel) rfl rfl (fun _ _ _ _ _ _ us hl => match us, hl with | [_, _], _ => rfl) e_form_value
    · exact defok_of (N := n_is_inside) (ps := ["region", "point"]) (st := top 15) X G c (List.mem_append_right _ (by simp [fnM])) (List.mem_append_right _ (by simp [fa])) (by decide +kernel) rfl rfl (fun _ _ _ _ _ _ us hl => match us, hl with | [_, _], _ => rfl) e_is_inside
    · exact defok_of (N := n_reduced) (ps := ["rows"]) (st := top 16) X G c (List.mem_append_right _ (by simp [fnM])) (List.mem_append_right _ (by simp [fa])) (by decide +kernel) rfl rfl (fun _ _ _ _ _ _ us hl => match us, hl with | [_], _ => rfl) e_reduced
    · exact defok_of (N := n_lessened) (ps := ["row", "one", "column"]) (st := top 17) X G c (List.mem_append_right _ (by simp [fnM])) (List.mem_append_right _ (by simp [fa])) (by decide +kernel) rfl rfl (fun _ _ _ _ _ _ us hl => match us, hl with | [_, _, _], _ => rfl) e_lessened
    · exact defok_of (N := n_solve) (ps := ["rows", "constants"]) (st := top 18) X G c (List.mem_append_right _ (by simp [fnM])) (List.mem_append_right _ (by simp [fa])) (by decide +kernel) rfl rfl (fun _ _ _ _ _ _ us hl => match us, hl with | [_, _], _ => rfl) e_solve
    · exact defok_of (N := n_choices) (ps := ["many", "size"]) (st := top 19) X G c (List.mem_append_right _ (by simp [fnM])) (List.mem_append_right _ (by simp [fa])) (by decide +kernel) rfl rfl (fun _ _ _ _ _ _ us hl => match us, hl with | [_, _], _ => rfl) e_choices
    · exact defok_of (N := n_in_order) (ps := ["points"]) (st := top 20) X G c (List.mem_append_right _ (by simp [fnM])) (List.mem_append_right _ (by simp [fa])) (by decide +kernel) rfl rfl (fun _ _ _ _ _ _ us hl => match us, hl with | [_], _ => rfl) e_in_order
    · exact defok_of (N := n_vertices) (ps := ["region", "n"]) (st := top 21) X G c (List.mem_append_right _ (by simp [fnM])) (List.mem_append_right _ (by simp [fa])) (by decide +kernel) rfl rfl (fun _ _ _ _ _ _ us hl => match us, hl with | [_, _], _ => rfl) e_vertices
    · exact defok_of (N := n_is_empty) (ps := ["region", "n"]) (st := top 22) X G c (List.mem_append_right _ (by simp [fnM])) (List.mem_append_right _ (by simp [fa])) (by decide +kernel) rfl rfl (fun _ _ _ _ _ _ us hl => match us, hl with | [_, _], _ => rfl) e_is_empty
    · exact defok_of (N := n__law_stream) (ps := ["_law_script"]) (st := top 24) X G c (List.mem_append_right _ (by simp [fnM])) (List.mem_append_right _ (by simp [fa])) (by decide +kernel) rfl rfl (fun _ _ _ _ _ _ us hl => match us, hl with | [_], _ => rfl) e__law_stream
    · exact defok_of (N := n__law_draw) (ps := ["_law_stream_here", "_law_many"]) (st := top 25) X G c (List.mem_append_right _ (by simp [fnM])) (List.mem_append_right _ (by simp [fa])) (by decide +kernel) rfl rfl (fun _ _ _ _ _ _ us hl => match us, hl with | [_, _], _ => rfl) e__law_draw
    · exact defok_of (N := n__law_divisor) (ps := ["_law_a", "_law_b"]) (st := top 26) X G c (List.mem_append_right _ (by simp [fnM])) (List.mem_append_right _ (by simp [fa])) (by decide +kernel) rfl rfl (fun _ _ _ _ _ _ us hl => match us, hl with | [_, _], _ => rfl) e__law_divisor
    · exact defok_of (N := n__law_q) (ps := ["_law_n", "_law_d"]) (st := top 27) X G c (List.mem_append_right _ (by simp [fnM])) (List.mem_append_right _ (by simp [fa])) (by decide +kernel) rfl rfl (fun _ _ _ _ _ _ us hl => match us, hl with | [_, _], _ => rfl) e__law_q
    · exact defok_of (N := n__law_add) (ps := ["_law_a", "_law_b"]) (st := top 28) X G c (List.mem_append_right _ (by simp [fnM])) (List.mem_append_right _ (by simp [fa])) (by decide +kernel) rfl rfl (fun _ _ _ _ _ _ us hl => match us, hl with | [_, _], _ => rfl) e__law_add
    · exact defok_of (N := n__law_sub) (ps := ["_law_a", "_law_b"]) (st := top 29) X G c (List.mem_append_right _ (by simp [fnM])) (List.mem_append_right _ (by simp [fa])) (by decide +kernel) rfl rfl (fun _ _ _ _ _ _ us hl => match us, hl with | [_, _], _ => rfl) e__law_sub
    · exact defok_of (N := n__law_mul) (ps := ["_law_a", "_law_b"]) (st := top 30) X G c (List.mem_append_right _ (by simp [fnM])) (List.mem_append_right _ (by simp [fa])) (by decide +kernel) rfl rfl (fun _ _ _ _ _ _ us hl => match us, hl with | [_, _], _ => rfl) e__law_mul
    · exact defok_of (N := n__law_over) (ps := ["_law_a", "_law_b"]) (st := top 31) X G c (List.mem_append_right _ (by simp [fnM])) (List.mem_append_right _ (by simp [fa])) (by decide +kernel) rfl rfl (fun _ _ _ _ _ _ us hl => match us, hl with | [_, _], _ => rfl) e__law_over
    · exact defok_of (N := n__law_less) (ps := ["_law_a", "_law_b"]) (st := top 32) X G c (List.mem_append_right _ (by simp [fnM])) (List.mem_append_right _ (by simp [fa])) (by decide +kernel) rfl rfl (fun _ _ _ _ _ _ us hl => match us, hl with | [_, _], _ => rfl) e__law_less
    · exact defok_of (N := n__law_as) (ps := ["_law_a"]) (st := top 33) X G c (List.mem_append_right _ (by simp [fnM])) (List.mem_append_right _ (by simp [fa])) (by decide +kernel) rfl rfl (fun _ _ _ _ _ _ us hl => match us, hl with | [_], _ => rfl) e__law_as
    · exact defok_of (N := n__law_pair) (ps := ["_law_got"]) (st := top 34) X G c (List.mem_append_right _ (by simp [fnM])) (List.mem_append_right _ (by simp [fa])) (by decide +kernel) rfl rfl (fun _ _ _ _ _ _ us hl => match us, hl with | [_], _ => rfl) e__law_pair
    · exact defok_of (N := n__law_number) (ps := ["_law_stream_here"]) (st := top 35) X G c (List.mem_append_right _ (by simp [fnM])) (List.mem_append_right _ (by simp [fa])) (by decide +kernel) rfl rfl (fun _ _ _ _ _ _ us hl => match us, hl with | [_], _ => rfl) e__law_number
    · exact defok_of (N := n__law_reduced) (ps := ["_law_rows", "_law_width"]) (st := top 36) X G c (List.mem_append_right _ (by simp [fnM])) (List.mem_append_right _ (by simp [fa])) (by decide +kernel) rfl rfl (fun _ _ _ _ _ _ us hl => match us, hl with | [_, _], _ => rfl) e__law_reduced
    · exact defok_of (N := n__law_without) (ps := ["_law_row", "_law_one", "_law_column"]) (st := top 37) X G c (List.mem_append_right _ (by simp [fnM])) (List.mem_append_right _ (by simp [fa])) (by decide +kernel) rfl rfl (fun _ _ _ _ _ _ us hl => match us, hl with | [_, _, _], _ => rfl) e__law_without
    · exact defok_of (N := n__law_solution) (ps := ["_law_rows", "_law_constants"]) (st := top 38) X G c (List.mem_append_right _ (by simp [fnM])) (List.mem_append_right _ (by simp [fa])) (by decide +kernel) rfl rfl (fun _ _ _ _ _ _ us hl => match us, hl with | [_, _], _ => rfl) e__law_solution
    · exact defok_of (N := n__law_picks) (ps := ["_law_many", "_law_size"]) (st := top 39) X G c (List.mem_append_right _ (by simp [fnM])) (List.mem_append_right _ (by simp [fa])) (by decide +kernel) rfl rfl (fun _ _ _ _ _ _ us hl => match us, hl with | [_, _], _ => rfl) e__law_picks
    · exact defok_of (N := n__law_value) (ps := ["_law_form", "_law_point_here"]) (st := top 40) X G c (List.mem_append_right _ (by simp [fnM])) (List.mem_append_right _ (by simp [fa])) (by decide +kernel) rfl rfl (fun _ _ _ _ _ _ us hl => match us, hl with | [_, _], _ => rfl) e__law_value
    · exact defok_of (N := n__law_inside) (ps := ["_law_region_here", "_law_point_here"]) (st := top 41) X G c (List.mem_append_right _ (by simp [fnM])) (List.mem_append_right _ (by simp [fa])) (by decide +kernel) rfl rfl (fun _ _ _ _ _ _ us hl => match us, hl with | [_, _], _ => rfl) e__law_inside
    · exact defok_of (N := n__law_unit) (ps := ["_law_n", "_law_k", "_law_sign"]) (st := top 42) X G c (List.mem_append_right _ (by simp [fnM])) (List.mem_append_right _ (by simp [fa])) (by decide +kernel) rfl rfl (fun _ _ _ _ _ _ us hl => match us, hl with | [_, _, _], _ => rfl) e__law_unit
    · exact defok_of (N := n__law_region) (ps := ["_law_stream_here", "_law_n"]) (st := top 43) X G c (List.mem_append_right _ (by simp [fnM])) (List.mem_append_right _ (by simp [fa])) (by decide +kernel) rfl rfl (fun _ _ _ _ _ _ us hl => match us, hl with | [_, _], _ => rfl) e__law_region
    · exact defok_of (N := n__law_form_as) (ps := ["_law_form"]) (st := top 44) X G c (List.mem_append_right _ (by simp [fnM])) (List.mem_append_right _ (by simp [fa])) (by decide +kernel) rfl rfl (fun _ _ _ _ _ _ us hl => match us, hl with | [_], _ => rfl) e__law_form_as
    · exact defok_of (N := n__law_region_as) (ps := ["_law_region_here"]) (st := top 45) X G c (List.mem_append_right _ (by simp [fnM])) (List.mem_append_right _ (by simp [fa])) (by decide +kernel) rfl rfl (fun _ _ _ _ _ _ us hl => match us, hl with | [_], _ => rfl) e__law_region_as
    · exact defok_of (N := n__law_point) (ps := ["_law_got"]) (st := top 46) X G c (List.mem_append_right _ (by simp [fnM])) (List.mem_append_right _ (by simp [fa])) (by decide +kernel) rfl rfl (fun _ _ _ _ _ _ us hl => match us, hl with | [_], _ => rfl) e__law_point
    · exact defok_of (N := n__law_before) (ps := ["_law_first", "_law_second"]) (st := top 47) X G c (List.mem_append_right _ (by simp [fnM])) (List.mem_append_right _ (by simp [fa])) (by decide +kernel) rfl rfl (fun _ _ _ _ _ _ us hl => match us, hl with | [_, _], _ => rfl) e__law_before
    · exact defok_of (N := n__law_corners) (ps := ["_law_region_here", "_law_n"]) (st := top 48) X G c (List.mem_append_right _ (by simp [fnM])) (List.mem_append_right _ (by simp [fa])) (by decide +kernel) rfl rfl (fun _ _ _ _ _ _ us hl => match us, hl with | [_, _], _ => rfl) e__law_corners
  intro f md hf
  exact key (f, md) (mem_look hf)
theorem facts {f : Addr} (X : K.In h) (G : h.Ns mainGlobals mg) (hfa : mg ("law" : Str) = some (.ref f)) (c : He.SaysD fa' fn' K) (ex : exR K = true) (hl : LawOk Γ 8 10 d_rest) :
    ∃ fd : FuncData, (∀ (s : Shared) (v : Value), BindsTo s fd ⟨[v], []⟩ [("_law_script", v)]) ∧ ∀ base : Heap, K.In base → base.Ns mainGlobals mg → FnOk P w K mg base CX0 (BASE + 8 + 1) f fd ["_law_script"] (spLaw K) := by
  obtain ⟨fd, F⟩ := says_def c (d := dMod "law" (top 49)) (List.mem_append_right _ (by simp [fnM]))
  have e := hfa.symm.trans (He.glo_ok X G (says_fact c (f := .glo "law") (List.mem_append_right _ (by simp [fa]))))
  cases e
  have b := FunD.bindsA (ps := ["_law_script"]) F fun _ _ _ _ _ _ us hl => match us, hl with | [_], _ => rfl
  exact ⟨fd, fun s v => b s [v] rfl, fun base kb gb => law_fn (N := n_law) (wd_all (fun k hk => wd_of (rt X G c ex) k hk) (defs X G c) 8) F (scQ_ok (by decide +kernel)) rfl e_law hl⟩
end

end K04
namespace K04
open Mp
theorem pick_n {v : Int} (h0 : 0 ≤ v) (h6 : v < 6) : ∃ n : Nat, n ≤ 3 ∧ ixD (.lst true [.int 1, .int 2, .int 2, .int 2, .int 3, .int 0]) (.int v) = pure (.int (n : Nat)) := by
  have hv : v = 0 ∨ v = 1 ∨ v = 2 ∨ v = 3 ∨ v = 4 ∨ v = 5 := by omega
  rcases hv with rfl | rfl | rfl | rfl | rfl | rfl
  · exact ⟨1, by decide, rfl⟩
  · exact ⟨2, by decide, rfl⟩
  · exact ⟨2, by decide, rfl⟩
  · exact ⟨2, by decide, rfl⟩
  · exact ⟨3, by decide, rfl⟩
  · exact ⟨0, by decide, rfl⟩
theorem chs_small : ∀ m, m ≤ 9 → ∀ i, i ≤ 3 → (chs m i).length ≤ 1000 := by decide +kernel
theorem big_q {A : Int} {b : Nat} (hA : 0 < A) (hA2 : A.natAbs ≤ WB) (b0 : 0 < b) : Rat.divInt A (b : Int) ≠ 0 ∧ Lq b WB (Rat.divInt A (b : Int)) := by
  have hb : ((b : Int) : Rat) ≠ 0 := by
    intro z
    have : (b : Int) = 0 := by exact_mod_cast z
    omega
  have e : Rat.divInt A (b : Int) * ((b : Int) : Rat) = A := by
    rw [Rat.divInt_eq_div, Rat.div_def, Rat.mul_assoc, Rat.inv_mul_cancel _ hb, Rat.mul_one]
  refine ⟨fun z => ?_, A, e, hA2⟩
  rw [z, Rat.zero_mul] at e
  have : A = 0 := by exact_mod_cast e.symm
  omega
theorem vts_mem {fs : List (List Rat × Rat)} {n mf z : Nat} (S : VSq fs n mf z) : ∀ p ∈ vtsE fs n, p.length = n := fun p hp => by
  unfold vtsE at hp
  split at hp
  · rename_i h
    split at hp
    · rw [List.mem_singleton.mp hp, h]
      rfl
    · cases hp
  · exact (S.v.corner (mem_ordE.mp hp)).1
theorem vts_len {fs : List (List Rat × Rat)} {n : Nat} (h : (chs fs.length n).length ≤ 1000) : (vtsE fs n).length ≤ 1000 := by
  unfold vtsE
  split
  · split <;> simp
  · exact Nat.le_trans (ordE_len _) (Nat.le_trans (corners_len fs n _) h)
theorem eqvs_q : ∀ ps : List (List Rat), D.eqvs (ps.map fun p : List Rat => D.lst true (p.map pr)) (encQs ps) = some true
  | [] => rfl
  | p :: ps => by
    show (match D.eqv (.lst true (p.map pr)) (.lst false (p.map pr)) with | some true => D.eqvs (ps.map fun p : List Rat => D.lst true (p.map pr)) (encQs ps) | r => r) = _
    rw [eqv_lpr, decide_eq_true rfl]
    exact eqvs_q ps
theorem ne_q (ps : List (List Rat)) : cmpD .NotEq (.lst true (ps.map fun p : List Rat => D.lst true (p.map pr))) (.lst true (encQs ps)) = pure false := by
  show (do guardM (canC true (.lst true (ps.map fun p : List Rat => D.lst true (p.map pr))) (.lst true (encQs ps)) = true); let r ← ofO (D.eqv (.lst true (ps.map fun p : List Rat => D.lst true (p.map pr))) (.lst true (encQs ps))); pure (!r)) = (pure _ : M Bool)
  have h : canC true (.lst true (ps.map fun p : List Rat => D.lst true (p.map pr))) (.lst true (encQs ps)) = true := by
    have h1 : (D.lst true (ps.map fun p : List Rat => D.lst true (p.map pr))).plain 40 = true := plains_mapR (f := fun p : List Rat => D.lst true (p.map pr)) (fun p => plain_lpr true p 37) ps
    have h2 : (D.lst true (encQs ps)).plain 40 = true := plains_q ps 37
    unfold canC canCmp
    rw [h1, h2]
    simp
  have e : D.eqv (.lst true (ps.map fun p : List Rat => D.lst true (p.map pr))) (.lst true (encQs ps)) = some true := by
    show (if (ps.map fun p : List Rat => D.lst true (p.map pr)).length = (encQs ps).length then D.eqvs (ps.map fun p : List Rat => D.lst true (p.map pr)) (encQs ps) else some false) = _
    rw [if_pos (by unfold encQs; rw [List.length_map, List.length_map]), eqvs_q]
  rw [h, e]
  rfl
def spR (p : List Rat) : D := .lst true (p.map .rat ++ [.int 0])
theorem sp0L_own : ∀ {ps : List (List Rat)}, (∀ p ∈ ps, p.length < LIM) → sp0L (ownPs ps) = some (ps.map spR)
  | [], _ => rfl
  | p :: ps, h => by
    have h1 : sp01 (.lst true (p.map .rat)) = some (spR p) := by
      show (if (p.map D.rat).length < LIM then some (D.lst true (p.map .rat ++ [.int 0])) else none) = _
      rw [if_pos (by rw [List.length_map]; exact h p List.mem_cons_self)]
      rfl
    have h2 := sp0L_own fun q hq => h q (List.mem_cons_of_mem _ hq)
    show (match sp01 (.lst true (p.map .rat)), sp0L (ownPs ps) with | some a, some b => some (a :: b) | _, _ => none) = _
    rw [h1, h2]
    rfl
theorem sp0_own {ps : List (List Rat)} (h : ∀ p ∈ ps, p.length < LIM) : sp0D (.lst true (ownPs ps)) = (pure (.lst true (ps.map spR)) : M D) := by
  show (do let r ← ofO (sp0L (ownPs ps)); pure (.lst true r)) = (pure _ : M D)
  rw [sp0L_own h]
  rfl
theorem sp_strips (ps : List (List Rat)) : D.strips (ps.map spR ++ [.int 0]) = (ps.map fun p : List Rat => D.lst false (p.map .rat ++ [.int 0])) ++ [.int 0] := by
  have app : ∀ as bs : List D, D.strips (as ++ bs) = D.strips as ++ D.strips bs := fun as bs => by
    induction as with
    | nil => rfl
    | cons a as ih =>
      show D.strip a :: D.strips (as ++ bs) = D.strip a :: (D.strips as ++ D.strips bs)
      rw [ih]
  have e : D.strips (ps.map spR) = ps.map fun p : List Rat => D.lst false (p.map .rat ++ [.int 0]) := strips_map (fun p => by
    show D.lst false (D.strips (p.map .rat ++ [.int 0])) = _
    rw [app, strips_rats']
    rfl) ps
  rw [app, e]
  rfl
theorem no_app : ∀ as bs : List D, D.noOwns (as ++ bs) = (D.noOwns as && D.noOwns bs)
  | [], _ => rfl
  | a :: as, bs => by
    show (D.noOwn a && D.noOwns (as ++ bs)) = ((D.noOwn a && D.noOwns as) && D.noOwns bs)
    rw [no_app as bs, Bool.and_assoc]
theorem cut_last {α : Type} (xs : List α) (z : α) : cut (xs ++ [z]) none (some (-1)) = xs := by
  unfold cut six
  simp only [show ((-1 : Int) < 0) by decide, if_true, List.drop_zero, Nat.sub_zero]
  rw [show ((-1 : Int) + ((xs ++ [z]).length : Nat)).toNat = xs.length by rw [List.length_append, List.length_singleton]; omega]
  exact List.take_left' rfl
theorem lawOk : LawOk Γ 8 10 d_rest := by
  refine lawOk_of (k := 7) rfl fun ns s hl hs => ?_
  simp only [d_rest]
  have hlim : (LIM : Int) = 1000000 := rfl
  have hlim2 : LIM = 1000000 := rfl
  walk_at "mp nx"
  refine V_draw (k := 7) rfl (by decide) (by decide +kernel) hs fun v1 s1 k1 a1 b1 => ?_
  obtain ⟨n, hn, en⟩ := pick_n a1 b1
  rw [en]
  walk_at "mp nx"
  refine V_lawregionI (k := 4) rfl rfl rfl rfl rfl rfl rfl (by omega) k1 fun fs0 s2 k2 f1 f2 hf0 _ => ?_
  walk_at "mp mn"
  rw [(N1 _).1, V_cons]
  generalize hM : Nxt (callF Γ (7 + 1)) (MSs.cons _ _) _ = MM
  have rest1 : ∀ (fs : List (List Rat × Rat)) s', Sok s' → fs.length ≤ 8 → (∀ f ∈ fs, FmI n f) → MM (.nx [some (.scr ns), some .strm, some (.int (n : Nat)), some (.lst true (fs.map fun f => encFl f.1 f.2)), none, none, none, none, none, none, none, none]) s' := by
    intro fs s3 k3 hfl hf
    rw [← hM, (N1 _).1, V_cons]
    clear hM
    generalize hM2 : Nxt (callF Γ (7 + 1)) (MSs.cons _ _) _ = M2
    have rest2 : ∀ (fs : List (List Rat × Rat)) s', Sok s' → fs.length ≤ 9 → (∀ f ∈ fs, FmI n f) → M2 (.nx [some (.scr ns), some .strm, some (.int (n : Nat)), some (.lst true (fs.map fun f => encFl f.1 f.2)), none, none, none, none, none, none, none, none]) s' := by
      intro fs s3 k3 hfl hf
      rw [← hM2, (N1 _).1, V_cons]
      clear hM2
      walk_at "mp mn"
      rw [(N1 _).1, V_cons]
      generalize hM3 : Nxt (callF Γ (7 + 1)) (MSs.cons _ _) _ = M3
      have rest3 : ∀ (fs : List (List Rat × Rat)) (bd : Bool) s', Sok s' → fs.length ≤ 9 → (∀ f ∈ fs, FmI n f) → M3 (.nx [some (.scr ns), some .strm, some (.int (n : Nat)), some (.lst true (fs.map fun f => encFl f.1 f.2)), none, some (.bl bd), none, none, none, none, none, none]) s' := by
        intro fs bd s3 k3 hfl hf
        rw [← hM3, (N1 _).1, V_cons]
        clear hM3
        generalize hM4 : Nxt (callF Γ (7 + 1)) (MSs.cons _ _) _ = M4
        have rest4 : ∀ (fs : List (List Rat × Rat)) (w : Rat) (b : Nat) (v6 : Option D) s', w ≠ 0 → 0 < b → b ≤ 7 → Lq b WB w → Sok s' → fs.length ≤ 9 → (∀ f ∈ fs, FmW n w f) → M4 (.nx [some (.scr ns), some .strm, some (.int (n : Nat)), some (.lst true (fs.map fun f => encFl f.1 f.2)), none, some (.bl bd), v6, none, none, none, none, none]) s' := by
          intro fs w b v6 s3 w0 b0 b7 hb k3 hfl hf
          rw [← hM4]
          clear hM4
          have S := vsq_of hn w0 b0 b7 hb hf
          have hch : ∀ i ≤ n, (chs fs.length i).length ≤ 1000 := fun i hi => chs_small _ hfl i (by omega)
          have nrm := noOwn_rm fs
          have srm := strip_rm fs
          have hv : ∀ s (k : Nat) (Q : D → Strm → Prop), Q (.lst true (ownPs (vtsE fs n))) s → V (callF Γ (k + 5) "vertices" [encRm fs, .int (n : Nat)]) s Q := fun s k Q q => V_vertices4 (k := k) rfl rfl rfl rfl rfl rfl rfl rfl rfl rfl rfl rfl rfl rfl rfl hn (by omega) S hch q
          walk_at "mp nx"
          rw [strips_fls]
          refine V_region_as (k := 5) rfl rfl rfl (n := n) (m := 144) (by omega) (by omega) (by decide) S.fm ?_
          refine ⟨noShr_rm fs, ?_⟩
          have noF := noOwns_fls fs
          walk_at "mp nx"
          rw [strips_fls]
          walk_at "mp nx"
          rw [strips_fls]
          refine V_lawcorners (k := 1) rfl rfl rfl rfl rfl rfl rfl rfl rfl rfl rfl rfl rfl rfl rfl hn (by omega) S hch ?_
          refine ⟨.inr noF, ?_⟩
          have vl := vts_mem S
          have vlen := vts_len (fs := fs) (n := n) (hch n (Nat.le_refl _))
          walk_at "mp nx"
          rw [srm]
          refine hv s3 3 _ ?_
          generalize vtsE fs n = pts at hv vl vlen ⊢
          walk_at "mp nx"
          have nps := encPs_noOwns pts
          have lps := encPs_len pts
          refine ⟨.inr nrm, ?_⟩
          rw [if_neg id, ownPs_strips]
          refine ⟨nps, ⟨by omega, nps⟩, ?_⟩
          refine V_mapE (e := fun p : List Rat => D.lst false (p.map .rat)) (h := fun p : List Rat => D.lst true (p.map pr)) pts (fun p hp R hR => ?_) ?_
          · rw [Elm_eq]
            walk_at "mp mn"
            rw [strips_rats']
            refine V_lawpoint (k := 6) rfl rfl (by have := vl p hp; omega) ?_
            walk_at "mp mn"
            exact ⟨.inr (noOwns_rats' p), hR⟩
          rw [ne_q, V_pure, if_neg (by decide)]
          rw [(N1 _).1, V_cons]
          generalize hM5 : Nxt (callF Γ (7 + 1)) (MSs.cons _ _) _ = M5
          have rest5 : M5 (.nx [some (.scr ns), some .strm, some (.int (n : Nat)), some (.lst false (fs.map fun f => encFl f.1 f.2)), none, some (.bl bd), v6, none, some (encRm fs), some (.lst true (encQs pts)), some (.lst true (ownPs pts)), none]) s3 := by
            rw [← hM5]
            clear hM5
            walk_at "mp nx"
            refine ⟨⟨by decide, by omega⟩, ?_⟩
            rw [sp0_own fun p hp => by have := vl p hp; omega]
            walk_at "mp nx"
            have lsp : (pts.map spR).length = pts.length := List.length_map _
            refine ⟨by omega, ?_⟩
            walk_at "mp nx"
            rw [srm]
            refine hv s3 3 _ ?_
            refine ⟨.inr nrm, ?_⟩
            walk_at "mp mn"
            rw [ownPs_strips]
            refine ⟨⟨by omega, nps⟩, ?_⟩
            refine V_mapE (e := fun p : List Rat => D.lst false (p.map .rat)) (h := fun p : List Rat => D.lst true (p.map pr)) pts (fun p hp R hR => ?_) ?_
            · rw [Elm_eq]
              walk_at "mp mn"
              rw [strips_rats']
              refine V_lawpoint (k := 6) rfl rfl (by have := vl p hp; omega) ?_
              walk_at "mp mn"
              exact ⟨.inr (noOwns_rats' p), hR⟩
            rw [ne_q, V_pure, if_neg (by decide)]
            walk_at "mp nx"
            walk_at "mp nx"
            rw [sp_strips]
            have lA : (pts.map fun p : List Rat => D.lst false (p.map .rat ++ [.int 0])).length = pts.length := List.length_map _
            have nA : D.noOwns (pts.map fun p : List Rat => D.lst false (p.map .rat ++ [.int 0])) = true := noOwns_map (fun p => by
              show (!false && D.noOwns (p.map .rat ++ [.int 0])) = true
              rw [no_app, noOwns_rats']
              rfl) pts
            have nB : D.noOwns ((pts.map fun p : List Rat => D.lst false (p.map .rat ++ [.int 0])) ++ [.int 0]) = true := by
              rw [no_app, nA]
              rfl
            refine ⟨nB, encQs_noOwns pts, ?_⟩
            rw [if_pos (by
              rw [beq_iff_eq, List.length_append, lA, show (encQs pts).length = pts.length from List.length_map _, List.length_singleton]
              omega)]
            refine ⟨nB, ?_⟩
            rw [show slD (.lst false ((pts.map fun p : List Rat => D.lst false (p.map .rat ++ [.int 0])) ++ [.int 0])) none (some (-1)) = (pure (.lst true (cut ((pts.map fun p : List Rat => D.lst false (p.map .rat ++ [.int 0])) ++ [.int 0]) none (some (-1)))) : M D) from rfl, cut_last]
            walk_at "mp mn"
            refine ⟨⟨by omega, nA⟩, ?_⟩
            refine V_mapE (e := fun p : List Rat => D.lst false (p.map .rat ++ [.int 0])) (h := fun p : List Rat => D.bl ((fun _ => true) p)) pts (fun p hp R hR => ?_) ?_
            · rw [Elm_eq]
              walk_at "mp mn"
              have hpl := vl p hp
              refine ⟨by rw [no_app, noOwns_rats']; rfl, ?_⟩
              rw [show (((p.map D.rat ++ [D.int 0]).length : Nat) : Int) = (n : Int) + 1 by rw [List.length_append, List.length_map, List.length_singleton, hpl]; omega, beq_self_eq_true]
              exact hR
            rw [biD_all (bools_map (fun _ => true) pts), show (pts.map fun _ => true).all id = true by rw [List.all_map]; exact List.all_eq_true.mpr fun _ _ => rfl]
            walk_at "mp mn"
          walk_at "mp mn"
          cases bd with
          | false =>
            rw [if_neg (by decide)]
            exact rest5
          | true =>
            rw [if_pos rfl, srm]
            refine V_is_empty4 (k := 2) rfl (pts := pts) (fun R hR => hv s3 2 R hR) ?_
            refine ⟨.inl rfl, ?_⟩
            walk_at "mp mn"
            rw [cmpEq_nil, show (encQs pts).isEmpty = pts.isEmpty by unfold encQs; rw [List.isEmpty_map]]
            walk_at "mp mn"
            rw [cmpNe_repr, bne_self_eq_false]
            walk_at "mp mn"
            exact rest5
        walk_at "mp mn"
        refine V_draw (k := 7) rfl (by decide) (by decide +kernel) k3 fun v2 s4 k4 a2 b2 => ?_
        walk_at "mp mn"
        split
        · refine ⟨⟨by decide, by decide, by decide⟩, ⟨by decide, by decide, by decide⟩, ?_⟩
          refine V_draw (k := 7) rfl (by decide +kernel) (by decide +kernel) k4 fun v5 s5 k5 a5 b5 => ?_
          walk_at "mp mn"
          refine V_draw (k := 7) rfl (by decide) (by decide +kernel) k5 fun v6 s6 k6 a6 b6 => ?_
          walk_at "mp nx"
          have e40 : (10 : Int) ^ Int.toNat 40 = 10000000000000000000000000000000000000000 := by decide +kernel
          have e9 : (10 : Int) ^ Int.toNat 9 = 1000000000 := by decide +kernel
          have eW : WB = 10000000000000000000000000000001000000000 := by decide +kernel
          rw [e9] at b5
          rw [e40]
          generalize hA : (10000000000000000000000000000000000000000 : Int) + v5 = A
          obtain ⟨b, hb⟩ := Int.eq_ofNat_of_zero_le (show 0 ≤ 1 + v6 by omega)
          rw [hb]
          obtain ⟨hw0, hwq⟩ := big_q (A := A) (b := b) (by omega) (by omega) (by omega)
          have hwz : Zb 140 140 (Rat.divInt A (b : Int)) := hwq.zb (by omega) (Nat.le_trans (show b ≤ 7 by omega) (by decide +kernel)) (by decide +kernel)
          generalize hw : Rat.divInt A (b : Int) = w at hw0 hwq hwz
          walk_at "mp nx"
          rw [strips_fls]
          have noF := noOwns_fls fs
          refine ⟨noF, ⟨by rw [List.length_map]; omega, noF⟩, ?_⟩
          refine V_mapE (e := fun f : List Rat × Rat => encFl f.1 f.2) (h := fun f : List Rat × Rat => encFl f.1 (f.2 * w)) fs (fun f hf' R hR => ?_) ?_
          · have fz := (hf f hf').fml.ok
            rw [Elm_eq]
            simp only [encFl]
            walk_at "mp mn"
            refine ⟨noOwns_prs' _, V_q (k := 6) rfl rfl (by omega) (Nat.lt_of_le_of_lt (show (b : Int).natAbs ≤ 7 by omega) (by decide +kernel)) ?_⟩
            rw [hw, show (pr w).strip = pr w from rfl]
            refine V_rmul (k := 5) rfl rfl rfl (m := 12) (n := 140) fz.c hwz (by decide) ⟨.inl rfl, hR⟩
          have e : fs.map (fun f => encFl f.1 (f.2 * w)) = (fs.map fun f => ((f.1, f.2 * w) : List Rat × Rat)).map fun f => encFl f.1 f.2 := by rw [List.map_map]; rfl
          rw [e]
          refine rest4 _ w b _ s6 hw0 (by omega) (by omega) hwq k6 (by rw [List.length_map]; omega) fun f hf' => ?_
          obtain ⟨g, hg, rfl⟩ := List.mem_map.mp hf'
          have := (hf g hg).w.times (v := w)
          rw [Rat.one_mul] at this
          exact this
        · exact rest4 fs 1 1 none s4 (by decide) (by decide) (by decide) one_lq k4 hfl fun f h => (hf f h).w
      walk_at "mp mn"
      have noF := noOwns_fls fs
      have n4 : n = 0 ∨ n = 1 ∨ n = 2 ∨ n = 3 := by omega
      split
      · refine V_draw (k := 7) rfl (by decide) (by decide +kernel) k3 fun v2 s4 k4 a2 b2 => ?_
        walk_at "mp mn"
        split
        · refine ⟨noF, by rcases n4 with rfl | rfl | rfl | rfl <;> decide, ?_⟩
          refine V_draw (k := 7) rfl (by omega) (by rcases n4 with rfl | rfl | rfl | rfl <;> decide +kernel) k4 fun v5 s5 k5 a5 b5 => ?_
          obtain ⟨m, rfl⟩ := Int.eq_ofNat_of_zero_le a5
          walk_at "mp mn"
          rw [show slD (.lst true (fs.map fun f => encFl f.1 f.2)) (some (m : Int)) none = (pure (.lst true (cut (fs.map fun f => encFl f.1 f.2) (some (m : Int)) none)) : M D) from rfl, cut_down, ← List.map_drop]
          walk_at "mp nx"
          exact rest3 _ false s5 k5 (by rw [List.length_drop]; omega) fun f hf' => hf f (List.mem_of_mem_drop hf')
        · exact rest3 fs true s4 k4 hfl hf
      · exact rest3 fs true s3 k3 hfl hf
    have noF := noOwns_fls fs
    walk_at "mp mn"
    refine V_truth.mpr ?_
    split
    · refine V_draw (k := 7) rfl (by decide) (by decide +kernel) k3 fun v2 s4 k4 a2 b2 => ?_
      walk_at "mp mn"
      split
      · refine ⟨noF, noF, ?_⟩
        rw [show slD (.lst true (fs.map fun f => encFl f.1 f.2)) none (some 1) = (pure (.lst true (cut (fs.map fun f => encFl f.1 f.2) none (some ((1 : Nat) : Int)))) : M D) from rfl, cut_upto, ← List.map_take]
        refine V_pure.mpr ?_
        rw [cat_lst (by rw [List.length_map, List.length_map, List.length_take]; omega), ← List.map_append]
        refine V_pure.mpr (rest2 _ _ k4 (by rw [List.length_append, List.length_take]; omega) fun f hf' => ?_)
        rcases List.mem_append.mp hf' with h | h
        · exact hf f h
        · exact hf f (List.mem_of_mem_take h)
      · exact rest2 fs s4 k4 (by omega) hf
    · exact rest2 fs s3 k3 (by omega) hf
  walk_at "mp mn"
  by_cases h0 : n = 0
  · subst h0
    rw [if_pos (by rfl)]
    walk_at "mp nx"
    refine V_draw (k := 7) rfl (by decide) (by decide +kernel) k2 fun v2 s3 k3 a2 b2 => ?_
    walk_at "mp mn"
    refine ⟨⟨by omega, by omega⟩, ⟨by rw [range_len]; omega, range_noOwn⟩, ?_⟩
    refine V_gather (e := fun c : Rat => encFl [] c) (P := Lq 60 540) (fun x s R hs h => ?_) _ _ _ k3 fun cs s4 k4 hcl hcz => ?_
    · rw [Elm_eq]
      walk_at "mp mn"
      refine V_rnum60 (k := 5) rfl rfl rfl rfl hs fun a s' k' za => ?_
      walk_at "mp nx"
      exact h a s' k' za
    rw [range_len] at hcl
    have e : cs.map (fun c : Rat => encFl [] c) = (cs.map fun c => (([], c) : List Rat × Rat)).map fun f => encFl f.1 f.2 := by rw [List.map_map]; rfl
    rw [e]
    refine rest1 _ s4 k4 (by rw [List.length_map]; omega) fun f hf => ?_
    obtain ⟨c, hc, rfl⟩ := List.mem_map.mp hf
    exact ⟨rfl, by simp, (hcz c hc).mono (by decide)⟩
  · rw [if_neg (by simpa using h0)]
    walk_at "mp nx"
    exact rest1 fs0 s2 k2 (by omega) hf0
end K04

namespace K04
open PySem PySem.Spec
open PyProof.Rows L2 Mp
abbrev R : PySem.W.OpenRow := PySem.W.OpenLaw.row PySem.Challenge.rw_traproom_k04_vertices
abbrev hk : PySem.W.Hook := hookQ 5 fa' fn' exR
def ob (s : PySem.W.SharedT) : He.AlD × Bool := (He.obsDG 5 fa' fn' (HandSHeadRun.getT s), exR (He.frG (HandSHeadRun.getT s) (He.asD (HandSHeadRun.getT s) 5)))
theorem ob_eq (s : PySem.W.SharedT) : ob s = hk.obs s.abs := hookQ_eq (HandSHeadRun.getT_eq s)
theorem run (w : World) : HandSHeadRun.RunEq R (PySem.W.view R.prog [49]) hk ob 4000 ((["TraproomError", "ByZero", "greatest_divisor", "Ratio", "quotient", "is_less", "is_zero", "is_negative", "total", "products", "come_before", "form_value", "is_inside", "reduced", "lessened", "solve", "choices", "in_order", "vertices", "is_empty", "_law_stream", "_law_draw", "_law_divisor", "_law_q", "_law_add"] : List PySem.Str) ++ (["_law_sub", "_law_mul", "_law_over", "_law_less", "_law_as", "_law_pair", "_law_number", "_law_reduced", "_law_without", "_law_solution", "_law_picks", "_law_value", "_law_inside", "_law_unit", "_law_region", "_law_form_as", "_law_region_as", "_law_point", "_law_before", "_law_corners", "__name__"] : List PySem.Str)) w := by
  intro os
  kernel_rfl
end K04
open PySem PySem.W PySem.Calls PyProof.Rows
set_option maxRecDepth 1000000 in
set_option maxHeartbeats 0 in
theorem PySem.Challenge.cw_traproom_k04_vertices_holds : PySem.Challenge.rw_traproom_k04_vertices.Holds := by
  w_on; o_law
  refine HandSHeadRun.head_any (r := OpenLaw.row PySem.Challenge.rw_traproom_k04_vertices) (q := view (OpenLaw.row PySem.Challenge.rw_traproom_k04_vertices).prog [49]) (H := K04.hk) (ob := K04.ob) (M := 4000) (loose := ((["TraproomError", "ByZero", "greatest_divisor", "Ratio", "quotient", "is_less", "is_zero", "is_negative", "total", "products", "come_before", "form_value", "is_inside", "reduced", "lessened", "solve", "choices", "in_order", "vertices", "is_empty", "_law_stream", "_law_draw", "_law_divisor", "_law_q", "_law_add"] : List PySem.Str) ++ (["_law_sub", "_law_mul", "_law_over", "_law_less", "_law_as", "_law_pair", "_law_number", "_law_reduced", "_law_without", "_law_solution", "_law_picks", "_law_value", "_law_inside", "_law_unit", "_law_region", "_law_form_as", "_law_region_as", "_law_point", "_law_before", "_law_corners", "__name__"] : List PySem.Str))) (d := HandSHeadRun.topDef (OpenLaw.row PySem.Challenge.rw_traproom_k04_vertices).prog 49) (kwd := []) K04.ob_eq
    (by kernel_rfl) (fun s => by kernel_rfl) K04.run (by kernel_rfl) (by kernel_rfl) (by kernel_rfl) (by rfl) (by first | assumption | decide +kernel) (by decide +kernel) ⟨rfl, rfl, rfl, rfl, rfl, by decide +kernel⟩ ?hw ?hc
  case hw => w_witness2
  case hc =>
    refine L2.walk_ofE (l := PySem.Challenge.rw_traproom_k04_vertices) (n := 63) (k := Mp.BASE + 8 + 1) (x := "_law_script") (CX := L2.CX0) rfl (by decide) (by kernel_rfl) ⟨rfl, by decide, by decide⟩ ?F (fun _ _ _ _ z => z)
    intro w mg fa h Y G hmg0
    obtain ⟨K, KX, c, ex⟩ := Y
    have hmg : mg ("law" : PySem.Str) = some (.ref fa) := by
      have e : (HandSHeadRun.topDef (OpenLaw.row PySem.Challenge.rw_traproom_k04_vertices).prog 49).name = ("law" : PySem.Str) := by kernel_rfl
      rw [← e]
      exact hmg0
    obtain ⟨fd, hb, hF⟩ := K04.facts (P := (PySem.Challenge.rw_traproom_k04_vertices).prog) (w := w) KX G hmg c ex K04.lawOk
    exact ⟨K, fd, Mp.spLaw K, KX, hb, fun H a ns hl ho hS => ⟨a, ns, rfl, hl, Mp.scr_of ho hS, fun _ => rfl⟩, hF⟩
