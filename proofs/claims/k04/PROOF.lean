import PyProof.Rows.All
import Wide.All
import OpenK.AllK
import Wide.FinOn
import HandS.ForMost
import HandS.Wide
import HandS.ForExc
import HandS.IsInst
import HandS.Defaults
import HandS.Flow
import HandS.TupMul
import HandS.TupLe
import HandS.TupAny
import HandS.ClsMeth
import HandS.New0
import HandS.ExcInit
import HandS.ExcField
import HandS.ExcIs
import HandS.WordsExc
import HandS.CallSlots
import HandS.Exc
import HandS.TryMany
import HandS.TryElse
import HandS.Style
import HandS.DeepEq
import KE.IntTextLaws
import HandS.RaiseMore
import PyProof.Rows.ReprOcc
import HandS.Conv
import HandS.TupLen
import HandS.More
import PyProof.ReprRoads
import HandS.Rev
import HandS.Zip
import HandS.Walk
import KE.GoesEnum
import HandS.Small
import HandS.Dict
import HandS.Text
import HandS.ExcValue
import HandS.Codes
import HandS.Words
import HandS.ExcOwn
import HandS.HeadWalk
import HandS.EndBits
import HandS.HeadHook1
import HandS.HeadHook2
import HandS.HeadHook3
import HandS.HeadHook4
import HandS.Head0
import HandS.Head1
import HandS.Head2
import HandS.HeadEnd
import PySem.Challenge.RW_grantweave_k04_refusals_apart
set_option Elab.async false
set_option linter.all false
set_option maxRecDepth 100000
set_option maxHeartbeats 4000000
/-! VS1: data without a heap, a small core language, its meaning. -/
namespace VS
/-- keys of dicts -/
inductive KA | i (n : Int) | s (l : List Nat)
  deriving DecidableEq
/-- kinds of compound data -/
inductive Kn | tup | lst | slst | dK (ks : List KA) | dT (ks : List (List KA)) | obj (c : String) (ns : List String) | exc (c : String) | xd (ns : List String)
  deriving DecidableEq
/-- data; o: whoever holds it holds it alone -/
inductive D where
  | non | bl (b : Bool) | int (i : Int) | str (s : List Nat) | node (o : Bool) (k : Kn) (xs : List D) | cell (n : Nat)
  deriving Inhabited
abbrev D.tup (o : Bool) (xs : List D) : D := .node o .tup xs
abbrev D.lst (o : Bool) (xs : List D) : D := .node o .lst xs
abbrev D.dK (o : Bool) (ks : List KA) (xs : List D) : D := .node o (.dK ks) xs
abbrev D.dT (o : Bool) (ks : List (List KA)) (xs : List D) : D := .node o (.dT ks) xs
abbrev D.obj (o : Bool) (c : String) (ns : List String) (xs : List D) : D := .node o (.obj c ns) xs
abbrev LN : Nat := 16777216

/-! ### shared data -/
mutual
/-- nothing in it is held alone, no cells -/
def D.sh : D → Bool
  | .node o _ xs => !o && D.shL xs
  | .cell _ => false
  | _ => true
def D.shL : List D → Bool
  | [] => true
  | x :: r => D.sh x && D.shL r
end
mutual
/-- no cells in it -/
def D.nc : D → Bool
  | .node _ _ xs => D.ncL xs
  | .cell _ => false
  | _ => true
def D.ncL : List D → Bool
  | [] => true
  | x :: r => D.nc x && D.ncL r
end
mutual
def D.frz : D → D
  | .node _ k xs => .node false k (D.frzL xs)
  | d => d
def D.frzL : List D → List D
  | [] => []
  | x :: r => D.frz x :: D.frzL r
end
mutual
/-- all cells in it are below n -/
def D.bel (n : Nat) : D → Bool
  | .node _ _ xs => D.belL n xs
  | .cell m => decide (m < n)
  | _ => true
def D.belL (n : Nat) : List D → Bool
  | [] => true
  | x :: r => D.bel n x && D.belL n r
end

/-! ### equality as Python has it -/
def b2i (b : Bool) : Int := if b then 1 else 0
mutual
def D.eqD : D → D → Bool
  | .non, .non => true
  | .bl a, .bl b => a == b
  | .bl a, .int j => decide (b2i a = j)
  | .int i, .bl b => decide (i = b2i b)
  | .int i, .int j => decide (i = j)
  | .str a, .str b => decide (a = b)
  | .node _ .tup xs, .node _ .tup ys => D.eqL xs ys
  | .node _ .lst xs, .node _ .lst ys => D.eqL xs ys
  | .node _ (.dK ks) _, .node _ (.dK js) _ => ks.isEmpty && js.isEmpty
  | _, _ => false
def D.eqL : List D → List D → Bool
  | [], [] => true
  | x :: r, y :: s => D.eqD x y && D.eqL r s
  | _, _ => false
end
mutual
/-- what may be compared: no objects, no cells, no dicts, at most n deep -/
def D.okE : Nat → D → Bool
  | n, .node _ k xs => (decide (k = .dK []) && xs.isEmpty) || ((decide (k = .tup) || decide (k = .lst)) && (match n with
    | 0 => false
    | n + 1 => D.okEL n xs))
  | _, .cell _ => false
  | _, _ => true
def D.okEL : Nat → List D → Bool
  | _, [] => true
  | n, x :: r => D.okE n x && D.okEL n r
end

/-! ### states, results -/
abbrev Mem := List D
structure Sg where
  sl : List (Option D)
  m : Mem
structure Xc where
  c : String
  ns : List String
  xs : List D
inductive Rs (α : Type) where
  | ok (a : α) (s : Sg)
  | ex (x : Xc) (s : Sg)
  | bad
def Rs.bind {α β : Type} : Rs α → (α → Sg → Rs β) → Rs β
  | .ok a s, f => f a s
  | .ex x s, _ => .ex x s
  | .bad, _ => .bad
def Rs.of {α : Type} : Option α → Sg → Rs α
  | some a, s => .ok a s
  | none, _ => .bad
/-- what a cell holds, else the thing -/
def drf (m : Mem) : D → D
  | .cell n => (m[n]?).getD (.cell n)
  | d => d

/-! ### operations upon data -/
inductive Bop | add | sub | mul | fdiv | mod | pow | shl | shr | and | or | xor
  deriving DecidableEq
inductive Uop | neg | inv
  deriving DecidableEq
inductive Cop | eq | ne | lt | le | gt | ge | isN | notN | in_ | notIn
  deriving DecidableEq
inductive Blt | len | min2 | max2 | minL | maxL | sum | all | any | int1 | str1 | list1 | tuple1 | sorted1 | dict1 | repr1 | bool1
  deriving DecidableEq
inductive Bmt | join | split | index | get1 | get2 | items | keys | values | partition | replace | copy | upper | find | startswith
  deriving DecidableEq
/-- types that isinstance asks for -/
inductive Ty | int | bool | str | list | tuple | dict | ve | cls (c : String)
  deriving DecidableEq

def trD : D → Option Bool
  | .non => some false
  | .bl b => some b
  | .int i => some (i != 0)
  | .str s => if s.length ≤ LN then some (!s.isEmpty) else none
  | .node _ .tup xs => some (!xs.isEmpty)
  | .node _ .lst xs => some (!xs.isEmpty)
  | _ => none
def rep {α : Type} (xs : List α) : Nat → List α
  | 0 => []
  | n + 1 => xs ++ rep xs n
def small (i : Int) : Prop := i.natAbs < 18446744073709551616
instance (i : Int) : Decidable (small i) := by unfold small; infer_instance
def mulOk (i j : Int) : Prop := small i ∨ small j ∨ i.natAbs.log2 + j.natAbs.log2 < 1000000
instance (i j : Int) : Decidable (mulOk i j) := by unfold mulOk; infer_instance
def divOk (j : Int) : Prop := 0 < j ∧ j.natAbs.log2 < 9000
instance (j : Int) : Decidable (divOk j) := by unfold divOk; infer_instance
def shOk (i j : Int) : Prop := 0 ≤ j ∧ j ≤ 1000000 ∧ small i
instance (i j : Int) : Decidable (shOk i j) := by unfold shOk; infer_instance
/-- a row over and over -/
def repL : Nat → List D → List D
  | 0, _ => []
  | n + 1, xs => xs ++ repL n xs
def bopD : Bop → D → D → Option D
  | .add, .int i, .int j => some (.int (i + j))
  | .add, .str a, .str b => if a.length + b.length ≤ LN then some (.str (a ++ b)) else none
  | .add, .node _ .lst xs, .node _ .lst ys => if (D.shL xs && D.shL ys) = true ∧ xs.length + ys.length ≤ LN then some (.lst true (xs ++ ys)) else none
  | .add, .node false .tup xs, .node false .tup ys => if (D.shL xs && D.shL ys) = true ∧ xs.length + ys.length ≤ LN then some (.tup false (xs ++ ys)) else none
  | .sub, .int i, .int j => some (.int (i - j))
  | .mul, .int i, .int j => if mulOk i j then some (.int (i * j)) else none
  | .mul, .node _ .lst xs, .int k => if D.shL xs = true ∧ 2 ≤ k ∧ k ≤ 1000 ∧ xs.length ≤ 1000 then some (.lst true (repL k.toNat xs)) else none
  | .mul, .node false .tup xs, .int k => if D.shL xs = true ∧ xs ≠ [] ∧ 2 ≤ k ∧ k ≤ 1000 ∧ xs.length ≤ 1000 then some (.tup false (repL k.toNat xs)) else none
  | .fdiv, .int i, .int j => if divOk j then some (.int (i / j)) else none
  | .mod, .int i, .int j => if 0 < j then some (.int (i % j)) else none
  | .pow, .int i, .int j => if shOk i j then some (.int (i ^ j.toNat)) else none
  | .shl, .int i, .int j => if shOk i j then some (.int (i * 2 ^ j.toNat)) else none
  | .shr, .int i, .int j => if 0 ≤ j then some (.int (i / 2 ^ j.toNat)) else none
  | .and, .int i, .int j => some (.int (PySem.Builtin.bitAnd i j))
  | .or, .int i, .int j => some (.int (PySem.Builtin.bitOr i j))
  | .xor, .int i, .int j => some (.int (PySem.Builtin.bitXor i j))
  | _, _, _ => none
def augD : Bop → D → D → Option D
  | o, .int i, d => bopD o (.int i) d
  | _, _, _ => none
def uopD : Uop → D → Option D
  | .neg, .int i => some (.int (-i))
  | .inv, .int i => some (.int (PySem.Builtin.bitNot i))
  | _, _ => none
/-! ### keys, places -/
def keyA : D → Option KA
  | .int i => some (.i i)
  | .str s => some (.s s)
  | _ => none
def keyAs : List D → Option (List KA)
  | [] => some []
  | x :: r => (keyA x).bind fun k => (keyAs r).bind fun ks => some (k :: ks)
def keyT : D → Option (List KA)
  | .node false .tup xs => keyAs xs
  | _ => none
def unA : KA → D
  | .i n => .int n
  | .s l => .str l
def findK {κ : Type} [DecidableEq κ] (k : κ) : List κ → List D → Option D
  | j :: js, x :: xs => if j = k then some x else findK k js xs
  | _, _ => none
def putK {κ : Type} [DecidableEq κ] (k : κ) (d : D) : List κ → List D → List κ × List D
  | j :: js, x :: xs => if j = k then (j :: js, d :: xs) else (j :: (putK k d js xs).1, x :: (putK k d js xs).2)
  | _, _ => ([k], [d])
/-- a place in a row of n things, from behind where it is below nought -/
def ixI (n : Nat) (i : Int) : Option Nat :=
  if 0 ≤ i then (if i < n then some i.toNat else none) else if -(n : Int) ≤ i then some (i + n).toNat else none
/-- a[i], the thing itself -/
def idxD : D → D → Option D
  | .node _ .tup xs, .int i => (ixI xs.length i).bind fun j => xs[j]?
  | .node _ .lst xs, .int i => (ixI xs.length i).bind fun j => xs[j]?
  | .node _ .slst xs, .int i => (ixI xs.length i).bind fun j => xs[j]?
  | .str s, .int i => if s.length ≤ LN then (ixI s.length i).bind fun j => (s[j]?).map fun c => .str [c] else none
  | .node _ (.dK ks) xs, k => (keyA k).bind fun k => findK k ks xs
  | .node _ (.dT ks) xs, k => (keyT k).bind fun k => findK k ks xs
  | _, _ => none
/-- a[i] = d -/
def setD : D → D → D → Option D
  | .node true .lst xs, .int i, d => (ixI xs.length i).map fun j => .lst true (xs.set j d)
  | .node true (.dK ks) xs, k, d => if xs.length < 16000000 then (keyA k).map fun k => .dK true (putK k d ks xs).1 (putK k d ks xs).2 else none
  | .node true (.dT ks) xs, k, d => if xs.length < 16000000 then (keyT k).map fun k => .dT true (putK k d ks xs).1 (putK k d ks xs).2 else none
  | _, _, _ => none
def findF (f : String) : List String → List D → Option D
  | g :: gs, x :: xs => if g = f then some x else findF f gs xs
  | _, _ => none
def putF (f : String) (d : D) : List String → List D → List String × List D
  | g :: gs, x :: xs => if g = f then (g :: gs, d :: xs) else (g :: (putF f d gs xs).1, x :: (putF f d gs xs).2)
  | _, _ => ([f], [d])
def fldD : D → String → Option D
  | .node _ (.obj _ ns) xs, f => findF f ns xs
  | .node _ (.exc _) [.node _ (.xd ns) xs], f => findF f ns xs
  | _, _ => none
def setFD : D → String → D → Option D
  | .node true (.obj c ns) xs, f, d => if ns.length < 900 then some (.obj true c (putF f d ns xs).1 (putF f d ns xs).2) else none
  | _, _, _ => none
/-- what is no thing held alone -/
def D.al : D → Bool
  | .node o _ _ => !o
  | _ => true
/-- the bounds of a slice as it is cut from n things -/
def clampI (n : Nat) (d : Int) : D → Option Nat
  | .non => some (d.toNat)
  | .int i => some (if i < 0 then (i + n).toNat else min i.toNat n)
  | _ => none
def cut {α : Type} (xs : List α) (lo hi : Nat) : List α := (xs.take hi).drop lo
def slcD (a lo hi : D) : Option D := match a with
  | .node false .tup xs => (clampI xs.length 0 lo).bind fun l => (clampI xs.length xs.length hi).bind fun h => if D.shL xs then some (.tup false (cut xs l h)) else none
  | .node _ .lst xs => (clampI xs.length 0 lo).bind fun l => (clampI xs.length xs.length hi).bind fun h => if D.shL xs then some (.lst true (cut xs l h)) else none
  | .node _ .slst xs => (clampI xs.length 0 lo).bind fun l => (clampI xs.length xs.length hi).bind fun h => if D.shL xs then some (.lst true (cut xs l h)) else none
  | .str s => (clampI s.length 0 lo).bind fun l => (clampI s.length s.length hi).bind fun h => if s.length ≤ LN then some (.str (cut s l h)) else none
  | _ => none

/-! ### comparisons -/
def ltL (a b : List Nat) : Bool := decide (a < b)
def memL (x : D) : List D → Bool
  | [] => false
  | y :: r => D.eqD y x || memL x r
mutual
/-- surely equal: rows of equal things, dicts of the same keys in the same order -/
def D.eqv : Nat → D → D → Bool
  | _, .non, .non => true
  | _, .bl a, .bl b => a == b
  | _, .int i, .int j => decide (i = j)
  | _, .str a, .str b => decide (a = b)
  | n, .node _ .lst xs, .node _ .lst ys => (match n with | 0 => false | n + 1 => D.eqvL n xs ys)
  | n, .node _ (.dK ks) xs, .node _ (.dK js) ys => (match n with | 0 => false | n + 1 => decide (ks = js) && D.eqvL n xs ys)
  | _, _, _ => false
def D.eqvL : Nat → List D → List D → Bool
  | _, [], [] => true
  | n, x :: r, y :: s => D.eqv n x y && D.eqvL n r s
  | _, _, _ => false
end
def copX : D → D → Option Bool
  | .node o k xs, b => if D.eqv 30 (.node o k xs) b then some true else none
  | _, _ => none
def copY : D → D → Option Bool
  | .node o (.dK ks) xs, .node p (.dK js) ys => if D.eqv 1 (.node o (.dK ks) xs) (.node p (.dK js) ys) then some false else none
  | _, _ => none
/-- a dict and a text -/
def unK : D → D → Bool
  | .node _ (.dK _) _, .str _ => true
  | _, _ => false
def copD : Cop → D → D → Option Bool
  | .eq, a, b => if D.okE 30 a && D.okE 30 b then some (D.eqD a b) else copX a b
  | .ne, a, b => if unK a b then some true else if D.okE 30 a && D.okE 30 b then some (!D.eqD a b) else copY a b
  | .lt, .int i, .int j => some (decide (i < j))
  | .lt, .str a, .str b => some (ltL a b)
  | .le, .int i, .int j => some (decide (i ≤ j))
  | .le, .str a, .str b => some (!ltL b a)
  | .gt, .int i, .int j => some (decide (j < i))
  | .gt, .str a, .str b => some (ltL b a)
  | .ge, .int i, .int j => some (decide (j ≤ i))
  | .ge, .str a, .str b => some (!ltL a b)
  | .isN, .non, .non => some true
  | .isN, .cell _, .non => none
  | .isN, _, .non => some false
  | .isN, .bl a, .bl b => some (decide (a = b))
  | .notN, .non, .non => some false
  | .notN, .cell _, .non => none
  | .notN, _, .non => some true
  | .notN, .bl a, .bl b => some (!decide (a = b))
  | .in_, x, .node _ .tup xs => if D.okE 30 x && D.okEL 30 xs then some (memL x xs) else none
  | .in_, x, .node _ .lst xs => if D.okE 30 x && D.okEL 30 xs then some (memL x xs) else none
  | .in_, .str [c], .str s => some (decide (c ∈ s))
  | .in_, k, .node _ (.dK ks) xs => (keyA k).map fun k => (findK k ks xs).isSome
  | .in_, k, .node _ (.dT ks) xs => (keyT k).map fun k => (findK k ks xs).isSome
  | .notIn, x, .node _ .tup xs => if D.okE 30 x && D.okEL 30 xs then some (!memL x xs) else none
  | .notIn, x, .node _ .lst xs => if D.okE 30 x && D.okEL 30 xs then some (!memL x xs) else none
  | .notIn, .str [c], .str s => some (!decide (c ∈ s))
  | .notIn, k, .node _ (.dK ks) xs => (keyA k).map fun k => !(findK k ks xs).isSome
  | .notIn, k, .node _ (.dT ks) xs => (keyT k).map fun k => !(findK k ks xs).isSome
  | _, _, _ => none

/-! ### built-in functions, methods -/
def ints? : List D → Option (List Int)
  | [] => some []
  | .int i :: r => (ints? r).map (i :: ·)
  | _ => none
def bls? : List D → Option (List Bool)
  | [] => some []
  | .bl i :: r => (bls? r).map (i :: ·)
  | _ => none
def strs? : List D → Option (List (List Nat))
  | [] => some []
  | .str i :: r => (strs? r).map (i :: ·)
  | _ => none
/-- the figures of a number -/
def digs : Nat → Nat → List Nat
  | 0, _ => []
  | f + 1, n => if n < 10 then [48 + n] else digs f (n / 10) ++ [48 + n % 10]
def strI (i : Int) : List Nat := if i < 0 then 45 :: digs 1000 i.natAbs else digs 1000 i.natAbs
def numL : List Nat → Nat → Nat
  | [], a => a
  | c :: r, a => numL r (10 * a + (c - 48))
def isDigs (s : List Nat) : Bool := !s.isEmpty && s.all fun c => decide (48 ≤ c ∧ c ≤ 57)
def minL : List Int → Int → Int
  | [], m => m
  | x :: r, m => minL r (if x < m then x else m)
def maxL : List Int → Int → Int
  | [], m => m
  | x :: r, m => maxL r (if m < x then x else m)
def datK : KA → PySem.PyData
  | .i n => .int n
  | .s l => .str ⟨l.toArray⟩
mutual
/-- plain data, as repr tells it -/
def datD : D → Option PySem.PyData
  | .non => some .none
  | .bl b => some (.bool b)
  | .int i => some (.int i)
  | .str s => some (.str ⟨s.toArray⟩)
  | .node _ .tup xs => (datL xs).map .tuple
  | .node _ .lst xs => (datL xs).map .list
  | .node _ (.dK ks) xs => (datL xs).map fun ys => .dict ((ks.map datK).zip ys)
  | _ => none
def datL : List D → Option (List PySem.PyData)
  | [] => some []
  | x :: r => (datD x).bind fun y => (datL r).map (y :: ·)
end
mutual
/-- no list in it -/
def noLs : D → Bool
  | .node _ .tup xs => noLsL xs
  | .node _ .lst _ => false
  | .node _ _ xs => noLsL xs
  | _ => true
def noLsL : List D → Bool
  | [] => true
  | x :: r => noLs x && noLsL r
end
/-- the text that repr tells -/
def repD (d : D) : Option (List Nat) := (datD d).bind fun y => if y.showable = true ∧ (y.hasDict = false ∨ noLs d = true) ∧ y.depth < 100 ∧ y.shown.length ≤ LN then some y.shown.cps.toList else none
def bltD : Blt → List D → Option D
  | .len, [.str s] => if s.length ≤ LN then some (.int s.length) else none
  | .len, [.node _ .tup xs] => some (.int xs.length)
  | .len, [.node _ .lst xs] => some (.int xs.length)
  | .len, [.node _ .slst xs] => some (.int xs.length)
  | .len, [.node _ (.dK _) xs] => some (.int xs.length)
  | .len, [.node _ (.dT _) xs] => some (.int xs.length)
  | .min2, [.int i, .int j] => some (.int (if j < i then j else i))
  | .max2, [.int i, .int j] => some (.int (if j > i then j else i))
  | .minL, [.node _ .lst xs] => (ints? xs).bind fun ns => match ns with
    | [] => none
    | n :: r => some (.int (minL r n))
  | .maxL, [.node _ .lst xs] => (ints? xs).bind fun ns => match ns with
    | [] => none
    | n :: r => some (.int (maxL r n))
  | .sum, [.node _ .lst xs] => (ints? xs).map fun ns => .int ns.sum
  | .all, [.node _ .lst xs] => (bls? xs).map fun bs => .bl (bs.all id)
  | .any, [.node _ .lst xs] => (bls? xs).map fun bs => .bl (bs.any id)
  | .int1, [.int i] => some (.int i)
  | .int1, [.bl b] => some (.int (b2i b))
  | .int1, [.str s] => if isDigs s = true ∧ s.length ≤ 600 then some (.int (numL s 0 : Nat)) else none
  | .str1, [.int i] => if i.natAbs.log2 < 1920 then some (.str (strI i)) else none
  | .str1, [.str s] => some (.str s)
  | .bool1, [.bl b] => some (.bl b)
  | .list1, [.node _ .lst xs] => if D.shL xs then some (.lst true xs) else none
  | .list1, [.node _ .tup xs] => if D.shL xs then some (.lst true xs) else none
  | .list1, [.node _ (.dK ks) _] => some (.lst true (ks.map unA))
  | .list1, [.node _ (.dT ks) _] => some (.lst true (ks.map fun k => .node false .tup (k.map unA)))
  | .repr1, [d] => (repD d).map D.str
  | .tuple1, [.node _ .lst xs] => if D.shL xs then some (.tup false xs) else none
  | .tuple1, [.node false .tup xs] => some (.tup false xs)
  | _, _ => none

/-! ### the core language -/
/-- how a thing held alone is read: frozen from then on; put into a cell; moved; lent -/
inductive Md | frz | att | mov | lnd
  deriving DecidableEq
inductive Tg | nm (i : Nat) | tup (ts : List Tg)
inductive Mut | append | extend | pop0 | pop1 | insert | clear | reverse
  deriving DecidableEq
mutual
inductive CE where
  | cn (d : D) | nm (i : Nat) (m : Md) | gl (x : String)
  | bop (o : Bop) (a b : CE) | uop (o : Uop) (a : CE) | cmp (o : Cop) (a b : CE) | chn (o p : Cop) (a b c : CE)
  | and_ (a b : CE) | or_ (a b : CE) | not_ (a : CE) | ite (c a b : CE)
  | tup (es : CEs) | lst (es : CEs) | dct (t : Bool) (ks vs : CEs)
  | idx (a i : CE) (m : Md) | slc (a lo hi : CE) | fld (a : CE) (f : String) (m : Md)
  | cal (f : String) (es : CEs) | mak (c : String) (es : CEs) | met (o : CE) (m : String) (es : CEs) | scm (c m : String) (es : CEs) | xmk (c : String) (es : CEs)
  | bl1 (b : Blt) (a : CE) | bl2 (b : Blt) (a d : CE) | bm0 (b : Bmt) (o : CE) | bm1 (b : Bmt) (o a : CE) | isi (a : CE) (ts : List Ty) | mut (b : Mut) (o : CE) (es : CEs)
  | fz (a : CE)
  | cmpr (elt : CE) (tg : Tg) (it : CI) (cond : CE) (own : List Nat)
inductive CEs where
  | nil | cons (e : CE) (r : CEs)
/-- what is walked -/
inductive CI where
  | val (e : CE) | rng1 (a : CE) | rng2 (a b : CE) | enum (e : CE) | zip (a b : CE) | rev (e : CE)
end
mutual
inductive CS where
  | asg (t : Tg) (e : CE) | aug (i : Nat) (o : Bop) (e : CE) | setI (o i e : CE) | setF (o : CE) (f : String) (e : CE)
  | ex (e : CE) | ret (e : CE) | retN | ifs (c : CE) (a b : CSs)
  | for_ (tg : Tg) (it : CI) (body : CSs) | forc (tg : Tg) (e : CE) (body : CSs) | whl (c : CE) (body : CSs) (n : Nat) | rai (c : String) (es : CEs) | pass
  | kill (is : List Nat) | frs (i : Nat) | frc (i : Nat) | try_ (body : CSs) (hs : HDs) (els : CSs)
inductive CSs where
  | nil | cons (s : CS) (r : CSs)
/-- except clauses: the class, the name's slot, the suite -/
inductive HDs where
  | nil | cons (c : String) (i : Option Nat) (suite : CSs) (r : HDs)
end
def CEs.len : CEs → Nat
  | .nil => 0
  | .cons _ r => r.len + 1
def CE.isNm : CE → Bool
  | .nm _ _ => true
  | _ => false
def CE.isPk : CE → Bool
  | .cn _ => true
  | .nm _ _ => true
  | .gl _ => true
  | .idx a i _ => a.isPk && i.isPk
  | .fld a _ _ => a.isPk
  | _ => false
def CEs.allPk : CEs → Bool
  | .nil => true
  | .cons e r => e.isPk && r.allPk

/-- what a run of a function comes to -/
inductive Rr where
  | ok (d : D) (m : Mem)
  | ex (x : Xc) (m : Mem)
  | bad
/-- what the code may ask around it -/
structure Cl where
  /-- a function of the module by its name; init: it is the __init__ of a thing that stands in the last cell, which is told -/
  fn : Bool → String → List D → Mem → Rr
  con : String → Option D
  /-- the function that makes a class's things; the one that is a method of it -/
  ini : String → Option (Option String)
  meth : String → String → Option String
  /-- whether what is made is frozen -/
  frz : String → Bool
  sub : String → String → Bool
  /-- the fields of a refusal's class, in the order of its arguments -/
  exc : String → Option (List String)
  /-- the cells below this were there ahead of the call -/
  n0 : Nat

section
variable (F : Cl)
def pk : CE → Sg → Option D
  | .cn d, _ => some d
  | .nm i _, st => (st.sl[i]?).join
  | .gl x, _ => F.con x
  | .idx a i _, st => (pk a st).bind fun a => (pk i st).bind fun i => idxD (drf st.m a) i
  | .fld a f _, st => (pk a st).bind fun a => fldD (drf st.m a) f
  | _, _ => none
/-- what stands under a name, held alone or in a cell, becomes y -/
def putN (i : Nat) (y : D) (st : Sg) : Option Sg := match (st.sl[i]?).join with
  | some (.cell n) => if n < st.m.length then some { st with m := st.m.set n y } else none
  | some (.node true _ _) => some { st with sl := st.sl.set i (some y) }
  | _ => none
def setF1 (f : String) (y : D) : List String → List D → List D
  | g :: gs, x :: xs => if g = f then y :: xs else x :: setF1 f y gs xs
  | _, xs => xs
/-- the thing in a field of what stands under a name becomes y -/
def putF1 (i : Nat) (f : String) (y : D) (x : D) (st : Sg) : Option Sg := match x with
  | .node true (.obj c ns) xs => (match findF f ns xs with
    | some (.node true _ _) => putN i (.node true (.obj c ns) (setF1 f y ns xs)) st
    | _ => none)
  | _ => none
def putO : CE → D → Sg → Option Sg
  | .nm i _, y, st => putN i y st
  | .fld (.nm i _) f _, y, st => (st.sl[i]?).join.bind fun x => putF1 i f y (drf st.m x) st
  | _, _, _ => none
def isLst : D → Bool
  | .node _ .lst _ => true
  | _ => false
def rdN (i : Nat) (m : Md) (st : Sg) : Rs D := match (st.sl[i]?).join with
  | none => .bad
  | some d => if d.al then .ok d st else match m with
    | .frz => if d.nc then .ok d.frz { st with sl := st.sl.set i (some d.frz) } else .bad
    | .att => if d.nc then .ok (.cell st.m.length) { sl := st.sl.set i (some (.cell st.m.length)), m := st.m ++ [d] } else .bad
    | .mov => .ok d { st with sl := st.sl.set i none }
    | .lnd => .bad
/-- an operand: read where it lies, or made -/
def opd (p : Bool) (k : Sg → Option D) (f : Sg → Rs D) (st : Sg) : Rs D := if p then Rs.of (k st) st else f st
def two (p : Bool) (k : Sg → Option D) (fa fb : Sg → Rs D) (st : Sg) : Rs (D × D) :=
  if p then (Rs.of (k st) st).bind fun _ st => (fb st).bind fun b st => (Rs.of (k st) st).bind fun a st => .ok (a, b) st
  else (fa st).bind fun a st => (fb st).bind fun b st => .ok (a, b) st
end

/-! ### the meaning -/
def isiD (F : Cl) : D → Ty → Option Bool
  | .cell _, _ => none
  | .int _, .int => some true
  | .bl _, .int => some true
  | .bl _, .bool => some true
  | .str _, .str => some true
  | .node _ .lst _, .list => some true
  | .node _ .tup _, .tuple => some true
  | .node _ .slst _, _ => none
  | .node _ (.dK _) _, .dict => some true
  | .node _ (.dT _) _, _ => none
  | .node _ (.obj c _) _, .cls e => some (F.sub c e)
  | .node _ (.exc c) [.node _ (.xd _) _], .cls e => some (F.sub c e)
  | .node _ (.exc _) [.node _ (.xd _) _], .ve => some true
  | .node _ (.exc _) _, _ => none
  | .node _ (.xd _) _, _ => none
  | _, _ => some false
def isiL (F : Cl) (d : D) : List Ty → Option Bool
  | [] => some false
  | t :: r => (isiD F d t).bind fun b => if b then some true else isiL F d r
/-- built-in methods that change nothing -/
def joinL (sep : List Nat) : List (List Nat) → List Nat
  | [] => []
  | [x] => x
  | x :: r => x ++ sep ++ joinL sep r
def splitL (c : Nat) : List Nat → List Nat → List (List Nat)
  | [], acc => [acc]
  | x :: r, acc => if x = c then acc :: splitL c r [] else splitL c r (acc ++ [x])
def findS (c : Nat) (l : List Nat) : Int := match l.findIdx? (· == c) with
  | some i => (i : Int)
  | none => -1
def partS (c : Nat) (l : List Nat) : List Nat × List Nat × List Nat := match l.findIdx? (· == c) with
  | some i => (l.take i, [c], l.drop (i + 1))
  | none => (l, [], [])
def lenSum : List (List Nat) → Nat
  | [] => 0
  | x :: r => x.length + lenSum r
def idxOf (x : D) : Nat → List D → Option Nat
  | _, [] => none
  | n, y :: r => if D.eqD y x then some n else idxOf x (n + 1) r
def pairsK {κ : Type} (u : κ → D) : List κ → List D → List D
  | k :: ks, x :: xs => .tup false [u k, x] :: pairsK u ks xs
  | _, _ => []
def bmtD : Bmt → List D → Option D
  | .join, [.str sep, .node _ .lst xs] => (strs? xs).bind fun ss => if lenSum ss + ss.length * sep.length ≤ LN then some (.str (joinL sep ss)) else none
  | .join, [.str sep, .node _ .tup xs] => (strs? xs).bind fun ss => if lenSum ss + ss.length * sep.length ≤ LN then some (.str (joinL sep ss)) else none
  | .split, [.str s, .str [c]] => if s.length < LN - 2 then some (.lst true ((splitL c s []).map D.str)) else none
  | .find, [.str s, .str [c]] => some (.int (findS c s))
  | .upper, [.str s] => if s.length ≤ 5000000 then some (.str (PySem.Txt.upper ⟨s.toArray⟩).cps.toList) else none
  | .partition, [.str s, .str [c]] => if s.length ≤ LN then some (.tup false [.str (partS c s).1, .str (partS c s).2.1, .str (partS c s).2.2]) else none
  | .index, [.node _ .lst xs, .str s] => (strs? xs).bind fun ss => (ss.findIdx? (· == s)).map fun n => .int (n : Nat)
  | .get1, [.node _ (.dK ks) xs, k] => (keyA k).bind fun k => match findK k ks xs with
    | some d => if d.sh then some d else none
    | none => some .non
  | .get1, [.node _ (.dT ks) xs, k] => (keyT k).bind fun k => match findK k ks xs with
    | some d => if d.sh then some d else none
    | none => some .non
  | .get2, [.node _ (.dK ks) xs, k, z] => (keyA k).bind fun k => match findK k ks xs with
    | some d => if d.sh then some d else none
    | none => some z
  | .get2, [.node _ (.dT ks) xs, k, z] => (keyT k).bind fun k => match findK k ks xs with
    | some d => if d.sh then some d else none
    | none => some z
  | _, _ => none
def small62 (i : Int) : Prop := -4611686018427387904 ≤ i ∧ i < 4611686018427387904
instance (i : Int) : Decidable (small62 i) := by unfold small62; infer_instance
/-- methods that change the thing: what it becomes, what they hand back -/
def mutD : Mut → D → List D → Option (D × D)
  | .append, .node true .lst xs, [d] => if xs.length < LN then some (.lst true (xs ++ [d]), .non) else none
  | .extend, .node true .lst xs, [.node _ .lst ys] => if D.shL ys = true ∧ xs.length + ys.length ≤ LN then some (.lst true (xs ++ ys), .non) else none
  | .pop0, .node true .lst xs, [] => if D.shL xs then (xs.getLast?).map fun d => (.lst true xs.dropLast, d) else none
  | .pop1, .node true .lst xs, [.int i] => if D.shL xs = true ∧ small62 i then (ixI xs.length i).bind fun j => (xs[j]?).map fun d => (.lst true (xs.eraseIdx j), d) else none
  | .clear, .node true .lst _, [] => some (.lst true [], .non)
  | .reverse, .node true .lst xs, [] => if D.shL xs then some (.lst true xs.reverse, .non) else none
  | _, _, _ => none
mutual
def tgD : Tg → D → Sg → Option Sg
  | .nm i, d, st => if i < st.sl.length then some { st with sl := st.sl.set i (some d) } else none
  | .tup ts, .node _ .tup xs, st => tgL ts xs st
  | .tup ts, .node _ .lst xs, st => tgL ts xs st
  | .tup _, _, _ => none
def tgL : List Tg → List D → Sg → Option Sg
  | [], [], st => some st
  | t :: ts, x :: xs, st => if x.al then (tgD t x st).bind fun st => tgL ts xs st else none
  | _, _, _ => none
end
def enumL : Int → List D → List D
  | _, [] => []
  | i, x :: r => .tup false [.int i, x] :: enumL (i + 1) r
def zipL : List D → List D → List D
  | x :: r, y :: s => .tup false [x, y] :: zipL r s
  | _, _ => []
def rngL : Int → Nat → List D
  | _, 0 => []
  | i, n + 1 => .int i :: rngL (i + 1) n
/-- the things of a row that stays -/
def stay (xs : List D) : Option (List D) := if D.shL xs then some xs else if D.ncL xs then some (D.frzL xs) else none
def rowD : D → Option (List D)
  | .node _ .tup xs => stay xs
  | .node _ .lst xs => stay xs
  | .node _ .slst xs => if D.shL xs then some xs else none
  | .str s => some (s.map fun c => .str [c])
  | _ => none
def rowE : D → Option (List D)
  | .node _ .lst xs => stay xs
  | .node _ .tup xs => stay xs
  | _ => none
def rowL : D → Option (List D)
  | .node _ .lst xs => stay xs
  | _ => none
def rowZ : D → D → Option (List D)
  | .node _ .lst xs, .node _ .lst ys => (stay xs).bind fun xs => (stay ys).bind fun ys => some (zipL xs ys)
  | .node _ .tup xs, .node _ .tup ys => (stay xs).bind fun xs => (stay ys).bind fun ys => some (zipL xs ys)
  | _, _ => none
def wipe : List Nat → List (Option D) → List (Option D)
  | [], sl => sl
  | i :: r, sl => (wipe r sl).set i none
def restore : List Nat → List (Option D) → List (Option D) → List (Option D)
  | [], _, sl => sl
  | i :: r, old, sl => (restore r old sl).set i (old[i]?).join
/-- names of a comprehension's own: nothing held alone stands under them -/
def ownOk (own : List Nat) (sl : List (Option D)) : Bool := own.all fun i => match (sl[i]?).join with
  | some d => d.al
  | none => true
/-- a part from which no refusal comes -/
def Rs.nox {α : Type} : Rs α → Rs α
  | .ex _ _ => .bad
  | r => r
def lcL (f : D → Sg → Rs (Option D)) : List D → List D → Sg → Rs (List D)
  | [], acc, st => .ok acc st
  | x :: r, acc, st => (f x st).nox.bind fun o st => match o with
    | some d => if acc.length < LN then lcL f r (acc ++ [d]) st else .bad
    | none => lcL f r acc st
def Rr.rs : Rr → Sg → Rs D
  | .ok d m, st => .ok d { st with m := m }
  | .ex x m, st => .ex x { st with m := m }
  | .bad, _ => .bad
/-- what was there ahead of the call holds nothing of the call's cells -/
def tidy (n0 : Nat) : Mem → Bool
  | [] => true
  | d :: r => D.bel n0 d && tidy n0 r
/-- the class of a thing that has no attribute m of its own -/
def clsD (m : String) : D → Option String
  | .node _ (.obj c ns) _ => if m ∈ ns then none else some c
  | _ => none
/-- a new thing of a class -/
def mkR (F : Cl) (c : String) (ds : List D) (m : Mem) : Rr := match F.ini c with
  | none => .bad
  | some none => if ds.isEmpty then .ok (.obj (!F.frz c) c [] []) m else .bad
  | some (some f) => match F.fn false f (.cell m.length :: ds) (m ++ [.obj true c [] []]) with
    | .ok .non m2 => (match m2[m.length]? with
      | some o => if tidy m.length (m2.take m.length) && o.bel m.length then (if F.frz c then (if o.nc then .ok o.frz (m2.take m.length) else .bad) else .ok o (m2.take m.length)) else .bad
      | none => .bad)
    | .ex x m2 => if tidy m.length (m2.take m.length) then .ex x (m2.take m.length) else .bad
    | _ => .bad
/-- what a built-in method is called upon -/
def rcv : Bmt → D → Bool
  | .index, .node _ .lst _ => true
  | .index, _ => false
  | .get1, .node _ (.dK _) _ => true
  | .get1, .node _ (.dT _) _ => true
  | .get1, _ => false
  | .get2, .node _ (.dK _) _ => true
  | .get2, .node _ (.dT _) _ => true
  | .get2, _ => false
  | .items, .node _ (.dK _) _ => true
  | .items, .node _ (.dT _) _ => true
  | .items, _ => false
  | .keys, .node _ (.dK _) _ => true
  | .keys, .node _ (.dT _) _ => true
  | .keys, _ => false
  | .values, .node _ (.dK _) _ => true
  | .values, .node _ (.dT _) _ => true
  | .values, _ => false
  | .copy, .node _ (.dK _) _ => true
  | .copy, .node _ (.dT _) _ => true
  | .copy, .node _ .lst _ => true
  | .copy, _ => false
  | _, .str _ => true
  | _, _ => false
def rcvO (b : Bmt) (m : Mem) (x : D) : Option D := if rcv b (drf m x) then some x else none
def isAbs : CE → Bool
  | .cn .non => true
  | _ => false
def intD : D → Option D
  | .int i => some (.int i)
  | _ => none
/-- a slice's bound -/
def bdR (b : Bool) (v : Sg → Rs D) (st : Sg) : Rs D := if b then .ok .non st else (v st).bind fun d st => Rs.of (intD d) st
/-- a thing's value; its truth -/
structure EV where
  v : Sg → Rs D
  t : Sg → Rs Bool
def EV.mk' (v : Sg → Rs D) : EV := ⟨v, fun st => (v st).bind fun d st => Rs.of (trD (drf st.m d)) st⟩
/-- keys and things, in turn -/
def pairE : List EV → List EV → Sg → Rs (List D × List D)
  | [], [], st => .ok ([], []) st
  | k :: ks, v :: vs, st => (k.v st).bind fun a st => (v.v st).bind fun b st => (pairE ks vs st).bind fun p st => .ok (a :: p.1, b :: p.2) st
  | _, _, _ => .bad
/-- a refusal made, not raised -/
def xmkR (F : Cl) (c : String) (ds : List D) (st : Sg) : Rs D := match F.exc c, ds with
  | some [f], [d] => if d.nc then .ok (.node false (.exc c) [.node false (.xd [f]) [d.frz]]) st else .bad
  | _, _ => .bad
section
variable (F : Cl)
mutual
def evx : CE → EV
  | .cn d => .mk' (fun st => .ok d st)
  | .nm i m => ⟨rdN i m, fun st => (Rs.of (pk F (.nm i m) st) st).bind fun d st => Rs.of (trD (drf st.m d)) st⟩
  | .gl x => .mk' (fun st => Rs.of (F.con x) st)
  | .bop o a b => .mk' (fun st => (two (a.isNm || (a.isPk && b.isPk)) (pk F a) (evx a).v (opd b.isPk (pk F b) (evx b).v) st).bind fun p st => Rs.of (bopD o (drf st.m p.1) (drf st.m p.2)) st)
  | .fz a => .mk' (fun st => ((evx a).v st).bind fun d st => if d.nc then .ok d.frz st else .bad)
  | .uop o a => .mk' (fun st => (opd a.isPk (pk F a) (evx a).v st).bind fun d st => Rs.of (uopD o (drf st.m d)) st)
  | .cmp o a b => .mk' (fun st => (two (a.isNm || (a.isPk && b.isPk)) (pk F a) (evx a).v (opd b.isPk (pk F b) (evx b).v) st).bind fun p st => Rs.of ((copD o (drf st.m p.1) (drf st.m p.2)).map D.bl) st)
  | .chn o q a b c => .mk' (fun st => (two (a.isNm || (a.isPk && b.isPk)) (pk F a) (evx a).v (opd b.isPk (pk F b) (evx b).v) st).bind fun p st => (Rs.of (copD o (drf st.m p.1) (drf st.m p.2)) st).bind fun t st =>
      if !p.2.sh then .bad else if t then (opd c.isPk (pk F c) (evx c).v st).bind fun d st => Rs.of ((copD q p.2 (drf st.m d)).map D.bl) st else .ok (.bl false) st)
  | .and_ a b => ⟨fun st => ((evx a).v st).bind fun d st => (Rs.of (trD (drf st.m d)) st).bind fun t st => if t then (evx b).v st else .ok d st, fun st => ((evx a).t st).bind fun t st => if t then (evx b).t st else .ok false st⟩
  | .or_ a b => ⟨fun st => ((evx a).v st).bind fun d st => (Rs.of (trD (drf st.m d)) st).bind fun t st => if t then .ok d st else (evx b).v st, fun st => ((evx a).t st).bind fun t st => if t then .ok true st else (evx b).t st⟩
  | .not_ a => ⟨fun st => (opd a.isPk (pk F a) (evx a).v st).bind fun d st => Rs.of ((trD (drf st.m d)).map fun t => .bl (!t)) st, fun st => ((evx a).t st).bind fun t st => .ok (!t) st⟩
  | .ite c a b => ⟨fun st => ((evx c).t st).bind fun t st => if t then (evx a).v st else (evx b).v st, fun st => ((evx c).t st).bind fun t st => if t then (evx a).t st else (evx b).t st⟩
  | .tup es => .mk' (fun st => (evv es st).bind fun ds st => if ds.length ≤ LN then .ok (if D.shL ds then .tup false ds else .tup true ds) st else .bad)
  | .lst es => .mk' (fun st => (evv es st).bind fun ds st => if ds.length ≤ LN then .ok (.lst true ds) st else .bad)
  | .dct t ks vs => .mk' (fun st => (pairE (evL ks) (evL vs) st).bind fun p st => if t then (if p.1.length = 0 ∧ p.2.length = 0 then .ok (.dT true [] []) st else .bad)
      else (Rs.of (keyAs p.1) st).bind fun k st => if k.length ≤ 15 ∧ k.length = p.2.length ∧ k.Nodup then .ok (.dK true k p.2) st else .bad)
  | .idx a i m => .mk' (fun st => (two (a.isNm || (a.isPk && i.isPk)) (pk F a) (evx a).v (opd i.isPk (pk F i) (evx i).v) st).bind fun p st => (Rs.of (idxD (drf st.m p.1) p.2) st).bind fun d st => if d.al then .ok d st else .bad)
  | .slc a lo hi => .mk' (fun st => (two a.isNm (pk F a) (evx a).v (fun st => (bdR (isAbs lo) (opd lo.isPk (pk F lo) (evx lo).v) st).bind fun l st => (bdR (isAbs hi) (opd hi.isPk (pk F hi) (evx hi).v) st).bind fun h st => .ok (.tup true [l, h]) st) st).bind fun p st => match p.2 with
      | .node _ _ [l, h] => Rs.of (slcD (drf st.m p.1) l h) st
      | _ => .bad)
  | .fld a f m => .mk' (fun st => (opd a.isPk (pk F a) (evx a).v st).bind fun x st => (Rs.of (fldD (drf st.m x) f) st).bind fun d st => if d.al then .ok d st else .bad)
  | .cal f es => .mk' (fun st => (evv es st).bind fun ds st => (F.fn false f ds st.m).rs st)
  | .mak c es => .mk' (fun st => (evv es st).bind fun ds st => (mkR F c ds st.m).rs st)
  | .xmk c es => .mk' (fun st => (evv es st).bind fun ds st => xmkR F c ds st)
  | .met o m es => .mk' (fun st => ((evx o).v st).bind fun x st => (Rs.of (clsD m (drf st.m x)) st).bind fun c st => (Rs.of (F.meth c m) st).bind fun f st => (evv es st).bind fun ds st => (F.fn false f (x :: ds) st.m).rs st)
  | .scm c m es => .mk' (fun st => (Rs.of (F.meth c m) st).bind fun f st => (evv es st).bind fun ds st => (F.fn false f ds st.m).rs st)
  | .bl1 b a => .mk' (fun st => (opd a.isPk (pk F a) (evx a).v st).bind fun d st => Rs.of (bltD b [drf st.m d]) st)
  | .bl2 b a d => .mk' (fun st => (two (a.isNm || (a.isPk && d.isPk)) (pk F a) (evx a).v (opd d.isPk (pk F d) (evx d).v) st).bind fun p st => Rs.of (bltD b [drf st.m p.1, drf st.m p.2]) st)
  | .bm0 b o => .mk' (fun st => (opd o.isPk (pk F o) (evx o).v st).bind fun d st => Rs.of (bmtD b [drf st.m d]) st)
  | .bm1 b o a => .mk' (fun st => (two (o.isNm || (o.isPk && a.isPk)) (fun st => (pk F o st).bind (rcvO b st.m)) (fun st => ((evx o).v st).bind fun x st => Rs.of (rcvO b st.m x) st) (opd a.isPk (pk F a) (evx a).v) st).bind fun p st => Rs.of (bmtD b [drf st.m p.1, drf st.m p.2]) st)
  | .isi a ts => .mk' (fun st => (opd a.isPk (pk F a) (evx a).v st).bind fun d st => Rs.of ((isiL F (drf st.m d) ts).map D.bl) st)
  | .mut b o es => .mk' (fun st => (Rs.of ((pk F o st).bind fun x => if isLst (drf st.m x) then some x else none) st).bind fun _ st => (evv es st).bind fun ds st => (Rs.of (pk F o st) st).bind fun x st =>
      (Rs.of (mutD b (drf st.m x) ds) st).bind fun p st => (Rs.of (putO o p.1 st) st).bind fun st' _ => .ok p.2 st')
  | .cmpr elt tg it cond own => .mk' (fun st => (itD it st).bind fun xs st => if ownOk own st.sl then
      (lcL (fun x st => (Rs.of (tgD tg x { st with sl := wipe own st.sl }) st).bind fun st' _ => ((evx cond).t st').bind fun t st => if t then ((evx elt).v st).bind fun d st => .ok (some d) st else .ok none st) xs [] st).bind fun ds st' =>
        .ok (.lst true ds) { st' with sl := restore own st.sl st'.sl } else .bad)
def evL : CEs → List EV
  | .nil => []
  | .cons e r => evx e :: evL r
/-- values, to be held -/
def evv : CEs → Sg → Rs (List D)
  | .nil => fun st => .ok [] st
  | .cons e r => fun st => ((evx e).v st).bind fun d st => (evv r st).bind fun ds st => .ok (d :: ds) st
/-- what is walked -/
def itD : CI → Sg → Rs (List D)
  | .val e => fun st => ((evx e).v st).bind fun d st => Rs.of (rowD d) st
  | .rng1 a => fun st => ((evx a).v st).bind fun d st => match d with
      | .int j => if small62 j then .ok (rngL 0 j.toNat) st else .bad
      | _ => .bad
  | .rng2 a b => fun st => ((evx a).v st).bind fun d st => ((evx b).v st).bind fun e st => match d, e with
      | .int i, .int j => if small62 i ∧ small62 j then .ok (rngL i (j - i).toNat) st else .bad
      | _, _ => .bad
  | .enum e => fun st => ((evx e).v st).bind fun d st => (Rs.of (rowE d) st).bind fun xs st => .ok (enumL 0 xs) st
  | .zip a b => fun st => ((evx a).v st).bind fun d st => ((evx b).v st).bind fun e st => Rs.of (rowZ d e) st
  | .rev e => fun st => ((evx e).v st).bind fun d st => (Rs.of (rowL d) st).bind fun xs st => .ok xs.reverse st
end
def ev (c : CE) : Sg → Rs D := (evx F c).v
def tst (c : CE) : Sg → Rs Bool := (evx F c).t
end
/-- what a statement comes to -/
inductive Ob where
  | nx (s : Sg) | rt (d : D) (s : Sg) | ex (x : Xc) (s : Sg) | bad
def Ob.bind : Ob → (Sg → Ob) → Ob
  | .nx s, f => f s
  | o, _ => o
def Rs.ob {α : Type} : Rs α → (α → Sg → Ob) → Ob
  | .ok a s, f => f a s
  | .ex x s, _ => .ex x s
  | .bad, _ => .bad
def forL (f : D → Sg → Ob) : List D → Sg → Ob
  | [], st => .nx st
  | x :: r, st => (f x st).bind fun st => forL f r st
/-- a list in a cell, walked place by place as it is by then -/
def forC (f : D → Sg → Ob) (n : Nat) : Nat → Nat → Sg → Ob
  | 0, _, _ => .bad
  | k + 1, i, st => match st.m[n]? with
    | some (.node _ .lst xs) => (match xs[i]? with
      | none => .nx st
      | some x => if x.sh then (f x st).bind fun st => forC f n k (i + 1) st else .bad)
    | _ => .bad
def wlk (f : D → Sg → Ob) (d : D) (st : Sg) : Ob := match d with
  | .cell n => (match st.m[n]? with
    | some (.node _ .lst xs) => forC f n (xs.length + 1) 0 st
    | _ => .bad)
  | d => (Rs.of (rowD d) st).ob fun l st => forL f l st
def whlL (c : Sg → Rs Bool) (f : Sg → Ob) : Nat → Sg → Ob
  | 0, _ => .bad
  | n + 1, st => (c st).ob fun t st => if t then (f st).bind fun st => whlL c f n st else .nx st
/-- a refusal of class c, of ds -/
def raiD (F : Cl) (c : String) (ds : List D) (st : Sg) : Ob := match ds, F.exc c with
  | [d], some [f] => if d.nc then .ex ⟨c, [f], [d.frz]⟩ st else .bad
  | _, _ => .bad
/-- a refusal as a thing -/
def excD (x : Xc) : D := .node false (.exc x.c) [.node false (.xd x.ns) x.xs]
def inH (i : Option Nat) (x : Xc) (st : Sg) : Sg := match i with
  | some i => { st with sl := st.sl.set i (some (excD x)) }
  | none => st
def outN (i : Option Nat) (st : Sg) : Sg := match i with
  | some i => { st with sl := st.sl.set i none }
  | none => st
/-- the end of a suite: nothing is let out -/
def outH (i : Option Nat) : Ob → Ob
  | .nx st => .nx (outN i st)
  | .rt d st => .rt d (outN i st)
  | _ => .bad
def okH (i : Option Nat) (st : Sg) : Bool := match i with
  | some i => decide (i < st.sl.length)
  | none => true
def tryO (o : Ob) (h : Xc → Sg → Ob) (e : Sg → Ob) : Ob := match o with
  | .nx st => e st
  | .ex x st => h x st
  | o => o
/-- a name's thing is frozen from here on -/
def frsO (i : Nat) (st : Sg) : Ob := match (st.sl[i]?).join with
  | some d => if d.nc then .nx { st with sl := st.sl.set i (some d.frz) } else .bad
  | none => .bad
/-- what is in the cell under a name is frozen; the name holds it from here on -/
def frcO (i : Nat) (st : Sg) : Ob := match (st.sl[i]?).join with
  | some (.cell n) => (match st.m[n]? with
    | some d => if d.nc then .nx { sl := st.sl.set i (some d.frz), m := st.m.set n d.frz } else .bad
    | none => .bad)
  | _ => .bad
def killL (is : List Nat) (st : Sg) : Sg := { st with sl := wipe is st.sl }
section
variable (F : Cl)
mutual
def xst : CS → Sg → Ob
  | .asg t e => fun st => (ev F e st).ob fun d st => (Rs.of (tgD t d st) st).ob fun st' _ => .nx st'
  | .aug i o e => fun st => (Rs.of ((st.sl[i]?).join) st).ob fun _ st => (ev F e st).ob fun d st => (Rs.of (((st.sl[i]?).join).bind fun x => augD o x d) st).ob fun y st => .nx { st with sl := st.sl.set i (some y) }
  | .setI o i e => fun st => (ev F e st).ob fun d st => (Rs.of (pk F o st) st).ob fun _ st => (opd i.isPk (pk F i) (ev F i) st).ob fun k st => (Rs.of ((pk F o st).bind fun x => (setD (drf st.m x) k d).bind fun y => putO o y st) st).ob fun st' _ => .nx st'
  | .setF o f e => fun st => (ev F e st).ob fun d st => (Rs.of ((pk F o st).bind fun x => (setFD (drf st.m x) f d).bind fun y => putO o y st) st).ob fun st' _ => .nx st'
  | .ex e => fun st => (ev F e st).ob fun _ st => .nx st
  | .ret e => fun st => (ev F e st).ob fun d st => .rt d st
  | .retN => fun st => .rt .non st
  | .ifs c a b => fun st => (tst F c st).ob fun t st => if t then xss a st else xss b st
  | .for_ tg it body => fun st => (itD F it st).ob fun l st => forL (fun x st => (Rs.of (tgD tg x st) st).ob fun st' _ => xss body st') l st
  | .forc tg e body => fun st => (ev F e st).ob fun d st => wlk (fun x st => (Rs.of (tgD tg x st) st).ob fun st' _ => xss body st') d st
  | .whl c body n => fun st => whlL (tst F c) (xss body) n st
  | .rai c es => fun st => (evv F es st).ob fun ds st => raiD F c ds st
  | .pass => fun st => .nx st
  | .kill is => fun st => .nx (killL is st)
  | .frs i => frsO i
  | .frc i => frcO i
  | .try_ b hs e => fun st => tryO (xss b st) (xhs hs) (xss e)
def xss : CSs → Sg → Ob
  | .nil => fun st => .nx st
  | .cons s r => fun st => (xst s st).bind fun st => xss r st
def xhs : HDs → Xc → Sg → Ob
  | .nil => fun x st => .ex x st
  | .cons c i s r => fun x st => if F.sub x.c c then (if okH i st then outH i (xss s (inH i x st)) else .bad) else xhs r x st
end
end
/-- a function: how many parameters, how many names, what fills up the parameters, whether what it hands back is kept as it is -/
structure Fn where
  np : Nat
  nsl : Nat
  dfl : List D
  body : CSs
  keep : Bool
structure Prog where
  fn : String → Option Fn
  con : String → Option D
  ini : String → Option (Option String)
  meth : String → String → Option String
  frz : String → Bool
  sub : String → String → Bool
  exc : String → Option (List String)
def Prog.cl (P : Prog) (fn : Bool → String → List D → Mem → Rr) (n0 : Nat) : Cl := { fn := fn, con := P.con, ini := P.ini, meth := P.meth, frz := P.frz, sub := P.sub, exc := P.exc, n0 := n0 }
def argsOf (f : Fn) (ds : List D) : Option (List D) := if f.np - f.dfl.length ≤ ds.length ∧ ds.length ≤ f.np then some (ds ++ f.dfl.drop (ds.length - (f.np - f.dfl.length))) else none
/-- what is handed back, frozen -/
def handed (d : D) (st : Sg) (n0 : Nat) : Option D := match d with
  | .cell n => if n < n0 then some (.cell n) else (match st.m[n]? with
    | some c => if c.nc then some c.frz else none
    | none => none)
  | d => if d.nc then some d.frz else none
/-- what is handed back as it is; out of its cell, where that is the call's own -/
def kept (d : D) (st : Sg) (n0 : Nat) : Option D := match d with
  | .cell n => if n < n0 then some (.cell n) else (match st.m[n]? with
    | some c => if D.bel n0 c then some c else none
    | none => none)
  | d => if D.bel n0 d then some d else none
def fin (init keep : Bool) (n0 : Nat) (d : D) (st : Sg) : Rr :=
  if tidy n0 (st.m.take n0) then
    if init then (match d, st.m[n0]? with
      | .non, some c => if D.bel n0 c then .ok c (st.m.take n0) else .bad
      | _, _ => .bad)
    else if keep then (match kept d st n0 with
      | some e => .ok e (st.m.take n0)
      | none => .bad)
    else match handed d st n0 with
      | some e => .ok e (st.m.take n0)
      | none => .bad
  else .bad
def finO (init keep : Bool) (n0 : Nat) : Ob → Rr
  | .nx st => fin init keep n0 .non st
  | .rt d st => fin init keep n0 d st
  | .ex x st => if tidy n0 (st.m.take n0) then .ex x (st.m.take n0) else .bad
  | .bad => .bad
def run (P : Prog) : Nat → Bool → String → List D → Mem → Rr
  | 0, _, _, _, _ => .bad
  | k + 1, init, f, ds, m => match P.fn f with
    | none => .bad
    | some fn => match argsOf fn ds with
      | none => .bad
      | some as => finO init fn.keep (if init then m.length - 1 else m.length)
          (xss (P.cl (run P k) (if init then m.length - 1 else m.length)) fn.body ⟨as.map some ++ List.replicate (fn.nsl - fn.np) none, m⟩)
end VS
set_option maxHeartbeats 2000000
/-! VX3: try with any clauses, named or not, and an else; what is caught stands in the abstract heap. -/
namespace VS
open PySem PySem.Spec L2
open PyProof.Rows hiding St
section
variable {X : Cx} {pins : List (Addr × Obj)} {τ : L2.St} {G : Hp} {z : Shared} {a dd : Addr} {oe : Obj} {vs : Array Value}
/-- an object that nothing tracks as yet is tracked, as it is, in the context of a suite -/
theorem inv_track (J : Inv X pins τ G z) (ga : z.heap.get? a = some oe) (gd : oe.data = .fields vs) (na : G a = none) (nL : a ≠ X.env.locals) (n0 : X.s_0.heap.get? a = none) (np : ∀ p ∈ X.pn ++ pins, p.1 ≠ a) :
    Inv (X.suite a (X.pn ++ pins)) [] τ (upd G a (.frz oe (.own dd))) z := by
  have up : ∀ {b : Addr} {u : HO}, G b = some u → upd G a (.frz oe (.own dd)) b = some u := fun {b u} h => by
    rw [upd_ne (ne_of_none h na)]; exact h
  have nn : ∀ {b : Addr}, b ≠ a → G b = none → upd G a (.frz oe (.own dd)) b = none := fun {b} hb h => by rw [upd_ne hb]; exact h
  refine ⟨J.ok.suite _ _, J.os, J.bare, ⟨J.base.keep, J.base.slot, fun b o e n hx => ?_, J.base.there, fun b xs e => up (J.base.tups b xs e), fun b o u e => up (J.base.frzs b o u e), fun b ps e => ?_⟩, J.loc, J.cell, nn (Ne.symm nL) J.free, fun y c e => ?_, fun p hp => ?_, fun b u e => ?_, J.len⟩
  · exact nn (fun q => by subst q; have e' : X.s_0.heap.get? b = some o := e; rw [n0] at e'; cases e') (J.base.free b o e n hx)
  · obtain ⟨more, q⟩ := J.base.tbls b ps e
    exact ⟨more, up q⟩
  · refine nn (fun q => ?_) (J.freeC y c e)
    subst q
    obtain ⟨v, hv⟩ := J.cell y c e
    obtain ⟨o, ho, hdt⟩ : ∃ o, z.heap.get? c = some o ∧ o.data = .cell v := by
      first
        | exact hv
        | (obtain ⟨o, h1, h2⟩ := hv; exact ⟨o, h1, h2⟩)
        | exact ⟨_, hv, rfl⟩
    rw [ga] at ho; cases ho
    rw [gd] at hdt; cases hdt
  · have hp' : p ∈ X.pn ++ pins := by rw [List.append_nil] at hp; exact hp
    obtain ⟨q1, q2, q3⟩ := J.pin p hp'
    exact ⟨q1, nn (np p hp') q2, q3⟩
  · by_cases hb : b = a
    · subst hb
      rw [upd_same] at e
      cases e
      exact ⟨ga, oe, ga⟩
    · rw [upd_ne hb] at e
      exact (J.hok b u e).stay (fun _ _ _ q => q) (fun c q => up q) fun c xs q => up q
theorem inv_untrack (S : Inv (X.suite a (X.pn ++ pins)) [] τ G z) (ok : X.Ok) : Inv X pins τ G z :=
  ⟨ok, S.os, S.bare, S.base, S.loc, S.cell, S.free, S.freeC, fun p hp => S.pin p (by rw [List.append_nil]; exact hp), S.hok, S.len⟩
end
/-- a name's slot is filled; is forgotten -/
def nmIn (i : Option Nat) (a : Addr) (τ : L2.St) : L2.St := match i with
  | some i => τ.set i (some (.ref a))
  | none => τ
def nmOut (i : Option Nat) (τ : L2.St) : L2.St := match i with
  | some i => τ.set i none
  | none => τ
def endV (i : Option Nat) (D : Ends) : Ends := { nx := fun τ G => D.nx (nmOut i τ) G, rt := D.rt, bk := fun τ G => D.bk (nmOut i τ) G, ct := fun τ G => D.ct (nmOut i τ) G }
/-- what the clauses wish of what is let out -/
def wV (K : PySem.W.Frag) (Wo : WX) (D : Ends) : List (Value × Option Nat × (Addr → TS)) → WX
  | [] => Wo
  | (c, i, t) :: r => fun cls d τ G => ∃ b, PySem.W.exmOne K cls c = some b ∧ (b = true → ∃ dd, d = some dd ∧ ∀ (a : Addr) (oe : Obj), G a = none → Zc cls (some dd) oe → (∃ vs, oe.data = .fields vs) → t a (endV i D) (nmIn i a τ) (upd G a (.frz oe (.own dd)))) ∧
      (b = false → wV K Wo D r cls d τ G)
inductive HdV (X : Cx) : List ExceptHandler → List (Value × Option Nat × (Addr → TS)) → Prop
  | nil : HdV X [] []
  | anon {x : Str} {c : Value} {t : Addr → TS} {b0 : Stmt} {suite : List Stmt} {p1 p2 : Pos} {hs : List ExceptHandler} {l : List (Value × Option Nat × (Addr → TS))} (hc : Names X x c)
      (hsu : ∀ (a : Addr) (pn : List (Addr × Obj)), PSs (X.suite a pn) (b0 :: suite) (t a)) (r : HdV X hs l) : HdV X (.ExceptHandler (some (.Name x p1)) none (b0 :: suite) p2 :: hs) ((c, none, t) :: l)
  | named {x n : Str} {i : Nat} {c : Value} {t : Addr → TS} {b0 : Stmt} {suite : List Stmt} {p1 p2 : Pos} {hs : List ExceptHandler} {l : List (Value × Option Nat × (Addr → TS))} (hc : Names X x c) (hi : X.N[i]? = some n) (hln : X.env.kindOf n = some .local)
      (hsu : ∀ (a : Addr) (pn : List (Addr × Obj)), PSs (X.suite a pn) (b0 :: suite) (t a)) (r : HdV X hs l) : HdV X (.ExceptHandler (some (.Name x p1)) (some n) (b0 :: suite) p2 :: hs) ((c, some i, t) :: l)
theorem ps_tryV {X : Cx} {body orelse : List Stmt} {h0 : ExceptHandler} {hs : List ExceptHandler} {l : List (Value × Option Nat × (Addr → TS))} {pos : Pos} {tb : WX → TS} {u : TS} {Wo : WX} (ho : PSs X orelse u) (st : X.stack = X.env :: X.outer) (hf : X.env.frame = some X.env.locals) (hex : X.ex = []) (hN : X.N.Nodup) (tk : Takes X Wo)
    (hb : ∀ (W : WX) (pn : List (Addr × Obj)) (xe : Value → Shared → Prop), Takes (X.tr pn xe) W → PassesOwn (model X.prog X.w) X.A X.env xe → PSs (X.tr pn xe) body (tb W))
    (hh : HdV X (h0 :: hs) l) : PS X (.Try body (h0 :: hs) orelse [] pos) (fun D τ G => tb (wV X.K Wo D l) { D with nx := u D } τ G) := by
  refine ⟨fun pins z τ G D J want => ?_⟩
  have ok := J.ok
  have frm : X.A.frames = some (X.env :: X.outer) := by rw [ok.frames, st]
  refine wpAny_Try_except ?_
  refine wpAny_mono ((hb (wV X.K Wo D l) (X.pn ++ pins) (fun e z1 => wpAny (model X.prog X.w) X.A (noteFrame e X.env) (fun _ z2 => wpAny (model X.prog X.w) X.A (setFlight e none) (fun _ z3 =>
    wpAny (model X.prog X.w) X.A (handleBy e X.env (h0 :: hs)) (SP X pins D) X.xe z3) X.xe z2) X.xe z1) (fun uu z' caught => ?_) PassesOwn.looking).run [] z τ G { D with nx := u D } (J.toTry _) want) (fun f z1 hsp => ?_) (fun e z1 he => he)
  · obtain ⟨a, B, zI, pins', τ', G', cls, d, rfl, Jt, nb, up, sky, na, os, ag, wished⟩ := caught
    have JI : Inv X pins τ' G' zI := Jt.ofTry ok
    have sky' : Sky B (X.env :: X.outer) a (Zc cls d) X.env.locals z'.heap := by rw [← st]; exact sky
    show wpAny (model X.prog X.w) X.A (noteFrame (.ref a) X.env) _ _ _
    refine Sky.land Zc.steady frm hf sky' fun g3 fly3 up3 => ?_
    have J3 : Inv X pins τ' G' { z' with heap := g3 } := JI.landed nb fly3.1 (up.trans up3) os ag
    obtain ⟨o3, f3, he3, hz3, hd3⟩ := fly3.there
    have bare : ∀ {h : Heap} {o : Obj} {fs : Array Value}, h.FunFrames B (X.env :: X.outer) → h.get? a = some o → o.data = .fields fs → a ∉ frs (X.env :: X.outer) := fun {h o fs} ff e q hm => by
      obtain ⟨_, o', e', hnf⟩ := ff.mem hm
      rw [e] at e'; cases e'
      exact hnf _ q
    have nfr := bare fly3.2.2.1 he3 hd3
    have aL : a ≠ X.env.locals := fun q => nfr (List.mem_filterMap.mpr ⟨X.env, List.mem_cons_self, by rw [hf, q]⟩)
    have aF : a ∉ X.fs := fun hm => by
      obtain ⟨e, he, q⟩ := List.mem_filterMap.mp hm
      exact nfr (List.mem_filterMap.mpr ⟨e, List.mem_cons_of_mem _ he, q⟩)
    have Ba : B.get? a = none := fly3.2.1
    have ground : ∀ b o, zI.heap.get? b = some o → b ≠ X.env.locals → b ∉ X.fs → b ≠ a := fun b o e n1 n2 q => by
      have nf : b ∉ frs X.stack := by
        rw [st]
        intro hm
        obtain ⟨e1, he1, q1⟩ := List.mem_filterMap.mp hm
        rcases List.mem_cons.mp he1 with rfl | he1
        · rw [hf] at q1; exact n1 (Option.some.inj q1).symm
        · exact n2 (List.mem_filterMap.mpr ⟨e1, he1, q1⟩)
      have := nb b o e nf
      rw [q, Ba] at this; cases this
    have np : ∀ p ∈ X.pn ++ pins, p.1 ≠ a := fun p hp => by
      obtain ⟨q1, _, q3, q4, _⟩ := JI.pin p hp
      exact ground p.1 p.2 q1 q3 q4
    have n0 : X.s_0.heap.get? a = none := by
      cases e : X.s_0.heap.get? a with
      | none => rfl
      | some o =>
        obtain ⟨o', e'⟩ := JI.base.there a o e (by rw [hex]; simp)
        exact absurd rfl (ground a o' e' aL aF)
    have S3 := J3.suite he3 hd3 na aL aF
    have run_ : ∀ {hs' : List ExceptHandler} {l' : List (Value × Option Nat × (Addr → TS))}, HdV X hs' l' → wV X.K Wo D l' cls d τ' G' → wpAny (model X.prog X.w) X.A (handleBy (.ref a) X.env hs') (SP X pins D) X.xe { z' with heap := g3 } := by
      intro hs' l' hk
      have tst : ∀ {x : Str} {c : Value} {p1 : Pos} {Q : Value → Shared → Prop} {E : Value → Shared → Prop}, Names X x c → Q c { z' with heap := g3 } → wpAny (model X.prog X.w) (X.A.mark (some (.ref a))) (eval (.Name x p1) X.env) Q E { z' with heap := g3 } := fun {x c p1 Q E} hc q => by
        obtain ⟨hg, hdbg, hm | ⟨hm, hv, hnn⟩⟩ := hc
        · exact ld_glob (X := X.suite a ((a, o3) :: (X.pn ++ pins))) S3 hg hm q hdbg
        · exact ld_blt (X := X.suite a ((a, o3) :: (X.pn ++ pins))) S3 hg hm hv q hnn hdbg
      have LT : PySem.W.Looks (model X.prog X.w) g3 (typeOf (.ref a)) cls := fun A Q E s k q => wpAny_typeOf_ref (k _ _ he3) (by rw [hz3.1]; exact q)
      induction hk with
      | nil =>
        intro w
        refine wpAny_handleBy_nil ?_
        obtain ⟨k1, k2, k3, oz, fz, T, oT, ts', he, hz, hd, h1, hr⟩ := id fly3
        unfold PySem.passOn
        refine wpAny_bind (wpAny_field he hd h1 ?_)
        rw [if_neg (show ¬ ((Value.ref T == Value.none) = true) from by simp)]
        have last : wpAny (model X.prog X.w) X.A (setFlight (.ref a) X.env.frame) (fun _ z4 => wpAny (model X.prog X.w) X.A (throw (.ref a) : Sem Flow) (SP X pins D) X.xe z4) X.xe { z' with heap := g3 } := by
          rw [hf]
          refine HandSPX.setFlight_upZ fly3 fun g4 hh4 up4 => wpAny_throw (tk _ _ ?_)
          exact ⟨a, B, zI, pins, τ', G', cls, d, rfl, JI, nb, (up.trans up3).trans up4, .inr (.inr (by rw [st]; exact hh4)), na, os, ag, w⟩
        first
          | exact wpAny_bind (wpAny_pure (wpAny_bind last))
          | exact wpAny_bind last
      | @anon x c t b0 suite p1 p2 hs2 l2 hc hsu r ih =>
        intro w
        obtain ⟨b, hb1, yes, no⟩ := w
        refine wpAny_handleBy_cons (codeAny_handlers_test ?_) (by intro q; cases q)
        refine tst hc ((PySem.W.exm_one (M := model X.prog X.w) (J3.kIn) LT hb1).here ?_)
        cases b with
        | false =>
          show wpAny _ X.A (handleBy (.ref a) X.env hs2) _ _ _
          exact ih (no rfl)
        | true =>
          obtain ⟨dx, rfl, go⟩ := yes rfl
          refine codeAny_handlers_suite ?_
          refine HandSPX.lands_againZ fly3 fun g4 fly4 up4 => ?_
          have J4 : Inv X pins τ' G' { z' with heap := g4 } := JI.landed nb fly4.1 ((up.trans up3).trans up4) os ag
          obtain ⟨o4, f4, he4, hz4, hd4⟩ := fly4.there
          have S4 := inv_track (dd := dx) J4 he4 hd4 na aL n0 np
          refine wpAny_mono ((hsu a (X.pn ++ pins)).run [] _ _ _ _ S4 (go a o4 na hz4 ⟨_, hd4⟩)) (fun f z6 hsp => ?_) (fun _ _ q => False.elim q)
          match f, hsp with
          | .next, ⟨τ6, G6, S6, q6⟩ => exact ⟨_, _, inv_untrack S6 ok, q6⟩
          | .brk, ⟨τ6, G6, S6, q6⟩ => exact ⟨_, _, inv_untrack S6 ok, q6⟩
          | .cont, ⟨τ6, G6, S6, q6⟩ => exact ⟨_, _, inv_untrack S6 ok, q6⟩
          | .ret v, ⟨v6, τ6, G6, S6, r6, q6⟩ => exact ⟨_, _, _, inv_untrack S6 ok, r6, q6⟩
      | @named x n i c t b0 suite p1 p2 hs2 l2 hc hi hln hsu r ih =>
        intro w
        obtain ⟨b, hb1, yes, no⟩ := w
        refine wpAny_handleBy_cons (codeAny_handlers_test ?_) (by intro q; cases q)
        refine tst hc ((PySem.W.exm_one (M := model X.prog X.w) (J3.kIn) LT hb1).here ?_)
        cases b with
        | false =>
          show wpAny _ X.A (handleBy (.ref a) X.env hs2) _ _ _
          exact ih (no rfl)
        | true =>
          obtain ⟨dx, rfl, go⟩ := yes rfl
          refine codeAny_handlers_suite_as ?_
          refine HandSPX.lands_againZ fly3 fun g4 fly4 up4 => ?_
          have J4 : Inv X pins τ' G' { z' with heap := g4 } := JI.landed nb fly4.1 ((up.trans up3).trans up4) os ag
          obtain ⟨o4, f4, he4, hz4, hd4⟩ := fly4.there
          have S4 := inv_track (dd := dx) J4 he4 hd4 na aL n0 np
          refine store_ok (X := X.suite a (X.pn ++ pins)) (v := .ref a) S4 hN hi (.inl hln) rfl (fun z5 S5 => ?_) (.inr hln)
          refine wpAny_mono ((hsu a (X.pn ++ pins)).run [] _ _ _ _ S5 (go a o4 na hz4 ⟨_, hd4⟩)) (fun f z6 hsp => ?_) (fun _ _ q => False.elim q)
          have away : ∀ {τ6 : L2.St} {G6 : Hp} {Q : Shared → Prop}, Inv (X.suite a (X.pn ++ pins)) [] τ6 G6 z6 → (∀ z7, Inv X pins (τ6.set i none) G6 z7 → Q z7) →
              wpAny (model X.prog X.w) X.A (do bindName X.env n .none; unbindBehindTheSuite X.env n p2) (fun _ z7 => Q z7) X.xe z6 := fun {τ6 G6 Q} S6 hq => gone_ok (inv_untrack S6 ok) hN hi hln hq
          match f, hsp with
          | .next, ⟨τ6, G6, S6, q6⟩ => exact away S6 fun z7 J7 => ⟨_, _, J7, q6⟩
          | .brk, ⟨τ6, G6, S6, q6⟩ => exact away S6 fun z7 J7 => ⟨_, _, J7, q6⟩
          | .cont, ⟨τ6, G6, S6, q6⟩ => exact away S6 fun z7 J7 => ⟨_, _, J7, q6⟩
          | .ret v, ⟨v6, τ6, G6, S6, r6, q6⟩ => exact away S6 fun z7 J7 => ⟨_, _, _, J7, r6, q6⟩
    exact run_ hh wished
  · match f, hsp with
    | .next, ⟨τ', G', J', q⟩ => exact ho.run pins z1 τ' G' D (J'.ofTry ok) q
    | .brk, ⟨τ', G', J', q⟩ => exact ⟨τ', G', J'.ofTry ok, q⟩
    | .cont, ⟨τ', G', J', q⟩ => exact ⟨τ', G', J'.ofTry ok, q⟩
    | .ret v, ⟨v', τ', G', J', r, q⟩ => exact ⟨v', τ', G', J'.ofTry ok, r, q⟩
end VS
/-! VX4: isinstance of a refusal, its field, wherever it is held. -/
namespace PySem.W
open PySem PySem.Spec PySem.Calls PyProof.Rows
section
variable {prog : Program} {w : World} {A : Around} {E : Value → Shared → Prop} {z : Shared} {K : Frag} {x D : Addr} {ox : Obj} {od : Option Obj}
theorem findObj_dataV {C : Addr} {nm : Str} {at0 g0 : Value} (h1 : (clsIn K C).isSome = true) (h2 : findIn K (.ref C) nm = some (some at0)) (h3 : specialIn K at0 "__get__" = some (some g0)) (h4 : takesIn K at0 = some true) : findObj K C od nm = some (.bind g0 at0) := by
  obtain ⟨cd, h1⟩ := Option.isSome_iff_exists.mp h1
  unfold findObj
  rw [h1, Option.bind_some, h2, Option.bind_some]
  simp [h3, h4]
theorem kin_classV {Q : Option Value → Shared → Prop} (c1 : findIn K (.ref D) "__getattribute__" = some (some (.builtin "BaseException.__getattribute__"))) (c2 : findIn K (.ref D) "__getattr__" = some none) (c3 : subIn K (.ref D) (.type "BaseException") = some true)
    (c4 : hasDictIn K D = true) (c5 : findIn K (.ref D) "__class__" = some (some (.builtin "object.__class__")))
    (c6 : specialIn K (.builtin "object.__class__") "__get__" = some (some (.builtin "getset_descriptor.__get__"))) (c7 : takesIn K (.builtin "object.__class__") = some true) (c8 : mroIn K D (.type "object") = some true)
    (X : K.In z.heap) (I : InstAt z.heap x ox D od) (h : Q (some (.ref D)) { z with toks := z.toks + 1 }) : wpAny (model prog w) A (getAttr? (.ref x) "__class__") Q E z := by
  have hf : findObj K D od "__class__" = some (.bind (.builtin "getset_descriptor.__get__") (.builtin "object.__class__")) := findObj_dataV (by obtain ⟨cd, hc, _⟩ := any_some c4; rw [hc]; rfl) c5 c6 c7
  obtain ⟨hp, g, dr, t, os⟩ := z
  have K0 := I.type (M := model prog w)
  have K1 := looks_findIn (M := model prog w) X c1
  have K2 := looks_findIn (M := model prog w) X c2
  have K3 := looks_find (M := model prog w) X I hf
  have sb : Looks (model prog w) hp (isInstance (.ref x) (.type "BaseException")) true := K0.andThen (looks_subIn X c3)
  have n0 : (false && onTheHeap (Value.builtin "BaseException.__getattribute__")) = false := rfl
  have n2 : (Value.builtin "BaseException.__getattribute__" == Value.builtin "object.__getattribute__") = false := by decide +kernel
  have n1 : (onTheHeap (Value.ref D) && Value.builtin "BaseException.__getattribute__" == Value.builtin "object.__getattribute__") = false := by rw [n2]; rfl
  unfold getAttr? getAttrBy? getAttrBy
  refine wpAny_bind (wpAny_mkText (wpAny_bind (wpAny_attempt (wpAny_holding (wpAny_bind (K0.at (wpAny_bind (K1.at ?_))))))))
  show wpAny _ _ (if (onTheHeap (Value.ref D) && Value.builtin "BaseException.__getattribute__" == Value.builtin "object.__getattribute__") = true then _ else _) _ _ _
  rw [n1, if_neg Bool.false_ne_true]
  unfold getAttrByItsOwn hookBefore
  refine wpAny_bind ?_
  rw [if_pos (show onTheHeap (Value.ref D) = true from rfl)]
  refine K2.at ?_
  refine wpAny_bind (wpAny_attempt (wpAny_holding ?_))
  unfold callGetattribute
  rw [n0, if_neg Bool.false_ne_true]
  unfold boundAndCalled
  rw [PySem.F.excAttr_ValueError.ga.bind (.ref x)]
  refine wpAny_bind (wpAny_pure ?_)
  show wpAny _ _ (call (.builtin "BaseException.__getattribute__") [.ref x, .str "__class__" t]) _ _ _
  refine wpAny_call (codeAny_call_builtin PySem.F.excAttr_ValueError.ga.plain PySem.F.entry_bexc_ga ?_)
  refine @check_slot (model prog w) _ _ ⟨hp, g, dr, t + 1, os⟩ "BaseException.__getattribute__" "BaseException" "__getattribute__" (.ref x) [.str "__class__" t] [] _ (by decide +kernel) (by decide +kernel) sb (PySem.F.args_bexc_ga (.ref x) (.str "__class__" t)) ?_
  unfold Builtin.«object.__getattribute__»
  refine wpAny_bind (wpAny_of_eq (a := ((Value.ref x : Value), [Value.str "__class__" t])) (by first | rfl | (simp only [slotArgs]; rfl)) ?_)
  refine wpAny_bind (wpAny_pure (wpAny_bind (K0.at (wpAny_bind (K3.at ?_)))))
  show wpAny _ _ (holding [Value.builtin "object.__class__"] (call (.builtin "getset_descriptor.__get__") [.builtin "object.__class__", .ref x, .ref D]) >>= ret) _ _ _
  refine wpAny_bind (wpAny_holding (wpAny_call (class_get (s := ⟨hp, g, dr, t + 1, os⟩) (ox := ox) (od := od) X I c8 ?_)))
  refine wpAny_pure ?_
  show wpAny _ _ (handedOut (.ref D)) _ _ _
  rw [handedOut_of (v := .ref D) rfl]
  first
    | exact wpAny_pure (wpAny_pure h)
    | exact wpAny_pure h
    | exact wpAny_pure (wpAny_bind (wpAny_pure (wpAny_pure h)))
theorem kitx_V (c1 : findIn K (.ref D) "__getattribute__" = some (some (.builtin "BaseException.__getattribute__"))) (c2 : findIn K (.ref D) "__getattr__" = some none) (c3 : subIn K (.ref D) (.type "BaseException") = some true) (c4 : hasDictIn K D = true) (c5 : findIn K (.ref D) "__class__" = some (some (.builtin "object.__class__")))
    (c6 : specialIn K (.builtin "object.__class__") "__get__" = some (some (.builtin "getset_descriptor.__get__"))) (c7 : takesIn K (.builtin "object.__class__") = some true) (c8 : mroIn K D (.type "object") = some true) :
    KitX K (.ref x) (.ref D) (fun h => InstAt h x ox D od) where
  ty := fun _ _ _ I => I.type
  it := fun _ _ X _ => by
    obtain ⟨cdD, hcD, _⟩ := any_some c4
    unfold clsIn at hcD
    split at hcD
    · rename_i c' d' cd' sl' ho
      intro A2 Q2 E2 z2 k q
      unfold isType loadHead
      exact wpAny_bind (wpAny_loadPart (k _ _ (X _ _ ho)) (wpAny_pure q))
    · cases hcD
  ne := fun h tp dd its n sl X htp => by
    obtain ⟨cdD, hcD, _⟩ := any_some c4
    refine Bool.eq_false_iff.mpr fun q => ?_
    have e : D = tp := Value.ref.inj (beq_iff_eq.mp q)
    subst e
    unfold clsIn at hcD
    split at hcD
    · rename_i c' d' cd' sl' ho
      have y := (X _ _ ho).symm.trans htp
      cases y
    · cases hcD
  ca := fun X I k => kin_classV c1 c2 c3 c4 c5 c6 c7 c8 X I k
end
end PySem.W
namespace VS
open PySem PySem.Spec L2
open PyProof.Rows hiding St
/-- a refusal at a, of the class at C, its dict bearing fs -/
def ExcAt (H : Hp) (a C : Addr) (fs : List (Str × V)) : Prop := ∃ (oe : Obj) (dd : Addr), H a = some (.frz oe (.own dd)) ∧ oe.cls = .ref C ∧ oe.dict = some dd ∧ (∃ vs, oe.data = .fields vs) ∧ H dd = some (.xd fs)
theorem ExcAt.inst {X : Cx} {pins : List (Addr × Obj)} {σ : L2.St} {H : Hp} {z : Shared} {a C : Addr} {fs : List (Str × V)} (I : Inv X pins σ H z) (h : ExcAt H a C fs) : ∃ oe od, PySem.W.InstAt z.heap a oe C (some od) ∧ ∀ f v, fs.lookup f = some v → ∃ u, RelV v u ∧ PySem.W.lookIn f od = some (some u) := by
  obtain ⟨oe, dd, h1, h2, h3, ⟨vs, h4⟩, h5⟩ := h
  obtain ⟨g1, _⟩ := (show ObjOk X.prog X.w H z.heap a (.frz oe (.own dd)) from I.hok a _ h1)
  obtain ⟨mA, hns, hr⟩ := (show ObjOk X.prog X.w H z.heap dd (.xd fs) from I.hok dd _ h5)
  obtain ⟨od, ho, hl⟩ := lookIn_ns hns
  refine ⟨oe, od, ⟨g1, h2, by unfold PySem.W.notCls; rw [h4] <;> rfl, by rw [h3]; exact ho⟩, fun f v e => ?_⟩
  obtain ⟨u, hu, ru⟩ := RelO.some_of (v := v) (o := mA f) (by rw [← e]; exact hr f)
  exact ⟨u, ru, by rw [hl, hu]⟩
/-- isinstance(e, T) -/
def rIsX (K : PySem.W.Frag) : List V → Hp → VK → Prop := fun xs H Q => ∃ (a C : Addr) (fs : List (Str × V)) (c : V) (t : Value) (b : Bool), xs = [.ref a, c] ∧ ClsV c t ∧ ExcC K C ∧ ExcAt H a C fs ∧ PySem.W.kitOne K (.ref C) t = some b ∧ Q (.bl b) H
theorem call_isX {X : Cx} : CallR X (.builtin "isinstance") (rIsX X.K) := by
  intro pins z σ H xs us Q I r h
  obtain ⟨a, C, fs, c, t, b, rfl, k, C0, hx, e, q⟩ := h
  obtain ⟨u1, u2, rfl, r1, r2⟩ := vals2 r
  cases (show u1 = Value.ref a from r1)
  have e2 := k.eq r2
  subst e2
  obtain ⟨oe, od, J, _⟩ := hx.inst I
  refine PySem.W.kia_one (PySem.W.kitx_V C0.hg C0.hk C0.hs C0.hd C0.ha C0.hn C0.ht C0.hm) I.kIn J e ?_ fun tk => ⟨.bl b, H, I.tok tk, rfl, q⟩
  cases k <;> intro q1 <;> cases q1
/-- isinstance(e, (T, ..)) -/
def rIsXT (K : PySem.W.Frag) : List V → Hp → VK → Prop := fun xs H Q => ∃ (a C tp : Addr) (fs : List (Str × V)) (cs : List V) (ts : List Value) (b : Bool), xs = [.ref a, .ref tp] ∧ H tp = some (.tup cs) ∧ Paired ClsV cs ts ∧ ExcC K C ∧ ExcAt H a C fs ∧ PySem.W.kitAny K (.ref C) ts = some b ∧ Q (.bl b) H
theorem call_isXT {X : Cx} : CallR X (.builtin "isinstance") (rIsXT X.K) := by
  intro pins z σ H xs us Q I r h
  obtain ⟨a, C, tp, fs, cs, ts, b, rfl, hT, k, C0, hx, e, q⟩ := h
  obtain ⟨u1, u2, rfl, r1, r2⟩ := vals2 r
  cases (show u1 = Value.ref a from r1)
  cases (show u2 = Value.ref tp from r2)
  obtain ⟨oe, od, J, _⟩ := hx.inst I
  obtain ⟨_, its, rv, o, h1, h2, n, h3⟩ := (show ObjOk X.prog X.w H z.heap tp (.tup cs) from I.hok tp _ hT)
  have e3 := ClsV.all k rv
  subst e3
  obtain ⟨oc, od2, dt, sl⟩ := o
  simp only at h2 h3
  subst h2 h3
  exact PySem.W.kia_tup (PySem.W.kitx_V C0.hg C0.hk C0.hs C0.hd C0.ha C0.hn C0.ht C0.hm) I.kIn J h1 e (by intro q1; cases q1) fun tk => ⟨.bl b, H, I.tok tk, rfl, q⟩
theorem CallR.orr {X : Cx} {f : Value} {r1 r2 : List V → Hp → VK → Prop} (h1 : CallR X f r1) (h2 : CallR X f r2) : CallR X f (fun xs H Q => r1 xs H Q ∨ r2 xs H Q) := fun pins z σ H xs us Q I r h => h.elim (h1 pins z σ H xs us Q I r) (h2 pins z σ H xs us Q I r)
/-- a field of an instance or of a refusal -/
def tFldX (K : PySem.W.Frag) (ta : TE) (f : Str) : TE := fun σ H Q => ta σ H fun x H1 => (∃ a C dx fs v, x = .ref a ∧ H1 a = some (.ins C dx fs) ∧ Cls K C ∧ NoAttr K C f ∧ fs.lookup f = some v ∧ Q v H1) ∨
  ∃ a C fs v, x = .ref a ∧ ExcAt H1 a C fs ∧ XfC K C ∧ PySem.W.findIn K (.ref C) f = some none ∧ fs.lookup f = some v ∧ Q v H1
theorem pe_fldX {X : Cx} {e : Expr} {f : Str} {ta : TE} {pos : Pos} (he : PE X e ta) (hb : attributeBase e f X.env (eval e X.env) = eval e X.env) : PE X (.Attribute e f pos) (tFldX X.K ta f) := by
  refine ⟨fun pins z σ H Q I h => ?_⟩
  refine attr_of hb (thn (he.run pins z σ H _ I h) fun u z1 hh => ?_)
  obtain ⟨x, H1, I1, rx, hh⟩ := hh
  rcases hh with ⟨a, C, dx, fs, v, ex, ea, c, n, l, q⟩ | ⟨a, C, fs, v, ex, ea, T, no, l, q⟩
  · subst ex
    obtain rfl : u = Value.ref a := rx
    exact getattr_ok I1 ea c n l fun u' z2 I2 ru => ⟨v, H1, I2, ru, q⟩
  · subst ex
    obtain rfl : u = Value.ref a := rx
    obtain ⟨oe, od, J, hl⟩ := ea.inst I1
    obtain ⟨u2, ru, hu⟩ := hl f v l
    exact HandSPX.exc_get I1.kIn J T.ga T.gg T.exC (PySem.W.findObj_own T.hdC no rfl hu) (handed_of ru) ⟨v, H1, I1.tok _, ru, q⟩
end VS
/-! VS2: how data lies in the abstract heap; frames; values that are held. -/
namespace VS
open PySem PySem.Spec L2
open PyProof.Rows hiding St
abbrev cps (l : List Nat) : Str := ⟨l.toArray⟩
abbrev sn (s : String) : Str := Str.ofString s
def keyK : KA → Key
  | .i n => .inl n
  | .s l => .inr (cps l)
/-- the world of a whole law: what the top has written, the classes' addresses -/
structure Wd where
  K : PySem.W.Frag
  cls : String → Addr
  cs : List String
  xs : List String
/-- who holds a tree; where in it a thing stands -/
inductive Ix | slot (i : Nat) | cell (n : Nat) | temp (t : Nat)
  deriving DecidableEq
abbrev Ps := Option (Addr × Nat)
abbrev Own := Addr → Option (Ix × Ps)
def zipK {α β : Type} : List α → List β → List (α × β)
  | a :: r, b :: s => (a, b) :: zipK r s
  | _, _ => []
/-- what stands where a thing of this kind, made of vs, lies -/
def HOm (W : Wd) (vs : List V) : Kn → HO → Prop
  | .tup, o => o = .tup vs
  | .lst, o => o = .lst vs
  | .slst, o => ∃ ob, o = .frz ob (.lst vs)
  | .dK ks, o => o = .dK (zipK (ks.map keyK) vs) ∧ ks.length = vs.length ∧ ks.Nodup
  | .dT ks, o => o = .dT (zipK (ks.map fun k => k.map keyK) vs) ∧ ks.length = vs.length ∧ ks.Nodup
  | .obj c ns, o => ∃ dx, o = .ins (W.cls c) dx (zipK (ns.map sn) vs) ∧ ns.length = vs.length ∧ ns.Nodup ∧ c ∈ W.cs
  | .exc c, o => ∃ (oe : Obj) (dd : Addr), o = .frz oe (.own dd) ∧ vs = [.ref dd] ∧ oe.cls = .ref (W.cls c) ∧ oe.dict = some dd ∧ (∃ fs, oe.data = .fields fs) ∧ c ∈ W.xs
  | .xd ns, o => o = .xd (zipK (ns.map sn) vs) ∧ ns.length = vs.length
def Sat (W : Wd) (S : Hp) (a : Addr) (vs : List V) (k : Kn) : Prop := ∃ o, S a = some o ∧ HOm W vs k o
mutual
/-- shared data: it lies in S, for good -/
def RpS (W : Wd) (S : Hp) : D → V → Prop
  | .non, v => v = .non
  | .bl b, v => v = .bl b
  | .int i, v => v = .int i
  | .str s, v => v = .str (cps s)
  | .node o k xs, v => o = false ∧ ∃ a vs, v = .ref a ∧ Sat W S a vs k ∧ RpSL W S xs vs
  | .cell _, _ => False
def RpSL (W : Wd) (S : Hp) : List D → List V → Prop
  | [], vs => vs = []
  | x :: r, vs => ∃ v s, vs = v :: s ∧ RpS W S x v ∧ RpSL W S r s
end
/-- a state of the heap as it is known -/
structure Wh where
  S : Hp
  own : Own
  io : List Addr
mutual
def Rp (W : Wd) (w : Wh) (H : Hp) (r : Ix) : D → Ps → V → Prop
  | .non, _, v => v = .non
  | .bl b, _, v => v = .bl b
  | .int i, _, v => v = .int i
  | .str s, _, v => v = .str (cps s)
  | .node false k xs, _, v => ∃ a vs, v = .ref a ∧ Sat W w.S a vs k ∧ RpSL W w.S xs vs
  | .node true k xs, p, v => ∃ a vs ho, v = .ref a ∧ w.own a = some (r, p) ∧ H a = some ho ∧ HOm W vs k ho ∧ RpL W w H r xs a 0 vs
  | .cell n, _, v => ∃ a, w.io[n]? = some a ∧ v = .ref a
def RpL (W : Wd) (w : Wh) (H : Hp) (r : Ix) : List D → Addr → Nat → List V → Prop
  | [], _, _, vs => vs = []
  | x :: xs, a, j, vs => ∃ v s, vs = v :: s ∧ Rp W w H r x (some (a, j)) v ∧ RpL W w H r xs a (j + 1) s
end
/-! ### shared data stays -/
def SLe (S S' : Hp) : Prop := ∀ a u, S a = some u → S' a = some u
theorem SLe.refl (S : Hp) : SLe S S := fun _ _ h => h
theorem SLe.trans {A B C : Hp} (x : SLe A B) (y : SLe B C) : SLe A C := fun a u h => y a u (x a u h)
theorem Sat.mono {W : Wd} {S S' : Hp} (l : SLe S S') {a : Addr} {vs : List V} {k : Kn} (h : Sat W S a vs k) : Sat W S' a vs k := by
  obtain ⟨o, h, q⟩ := h
  exact ⟨o, l _ _ h, q⟩
mutual
theorem RpS.mono {W : Wd} {S S' : Hp} (l : SLe S S') : ∀ {d : D} {v : V}, RpS W S d v → RpS W S' d v
  | .non, _, h => h
  | .bl _, _, h => h
  | .int _, _, h => h
  | .str _, _, h => h
  | .node o k xs, v, h => by
    simp only [RpS] at h ⊢
    obtain ⟨ho, a, vs, e, q, r⟩ := h
    exact ⟨ho, a, vs, e, q.mono l, RpSL.mono l r⟩
  | .cell _, _, h => by simp only [RpS] at h
theorem RpSL.mono {W : Wd} {S S' : Hp} (l : SLe S S') : ∀ {xs : List D} {vs : List V}, RpSL W S xs vs → RpSL W S' xs vs
  | [], _, h => by simpa only [RpSL] using h
  | x :: r, vs, h => by
    simp only [RpSL] at h ⊢
    obtain ⟨v, s, e, q, r⟩ := h
    exact ⟨v, s, e, RpS.mono l q, RpSL.mono l r⟩
end
/-- a shared thing lies alike whoever asks -/
theorem Rp.of_sh {W : Wd} {w : Wh} {H : Hp} {r : Ix} : ∀ {d : D} {p : Ps} {v : V}, RpS W w.S d v → Rp W w H r d p v
  | .non, _, _, h => by simpa only [Rp, RpS] using h
  | .bl _, _, _, h => by simpa only [Rp, RpS] using h
  | .int _, _, _, h => by simpa only [Rp, RpS] using h
  | .str _, _, _, h => by simpa only [Rp, RpS] using h
  | .node o k xs, _, v, h => by
    simp only [RpS] at h
    obtain ⟨rfl, a, vs, e, q, r⟩ := h
    simp only [Rp]
    exact ⟨a, vs, e, q, r⟩
  | .cell _, _, _, h => by simp only [RpS] at h
theorem Rp.sh {W : Wd} {w : Wh} {H : Hp} {r : Ix} : ∀ {d : D} {p : Ps} {v : V}, d.sh = true → Rp W w H r d p v → RpS W w.S d v
  | .non, _, _, _, h => by simpa only [Rp, RpS] using h
  | .bl _, _, _, _, h => by simpa only [Rp, RpS] using h
  | .int _, _, _, _, h => by simpa only [Rp, RpS] using h
  | .str _, _, _, _, h => by simpa only [Rp, RpS] using h
  | .node false k xs, _, v, _, h => by
    simp only [Rp] at h
    simp only [RpS]
    exact ⟨trivial, h⟩
  | .node true k xs, _, v, e, _ => by simp [D.sh] at e
  | .cell _, _, _, e, _ => by simp [D.sh] at e
/-- alike for whoever holds it, where it isn't held alone -/
theorem Rp.al {W : Wd} {w : Wh} {H : Hp} {r r' : Ix} : ∀ {d : D} {p p' : Ps} {v : V}, d.al = true → Rp W w H r d p v → Rp W w H r' d p' v
  | .non, _, _, _, _, h => by simpa only [Rp] using h
  | .bl _, _, _, _, _, h => by simpa only [Rp] using h
  | .int _, _, _, _, _, h => by simpa only [Rp] using h
  | .str _, _, _, _, _, h => by simpa only [Rp] using h
  | .node false k xs, _, _, v, _, h => by simpa only [Rp] using h
  | .node true k xs, _, _, v, e, _ => by simp [D.al] at e
  | .cell _, _, _, _, _, h => by simpa only [Rp] using h
theorem Rp.alw {W : Wd} {w w' : Wh} {H H' : Hp} {r r' : Ix} (hS : ∀ {k : Kn} {xs : List D} {v : V}, RpS W w.S (.node false k xs) v → RpS W w'.S (.node false k xs) v) (io : ∀ (n : Nat) (a : Addr), w.io[n]? = some a → w'.io[n]? = some a) : ∀ {d : D} {p p' : Ps} {v : V}, d.al = true → Rp W w H r d p v → Rp W w' H' r' d p' v
  | .non, _, _, _, _, h => by simpa only [Rp] using h
  | .bl _, _, _, _, _, h => by simpa only [Rp] using h
  | .int _, _, _, _, _, h => by simpa only [Rp] using h
  | .str _, _, _, _, _, h => by simpa only [Rp] using h
  | .node false k xs, _, _, v, _, h => by
    have h1 : RpS W w.S (.node false k xs) v := by simp only [Rp] at h; simp only [RpS]; exact ⟨trivial, h⟩
    exact Rp.of_sh (hS h1)
  | .node true k xs, _, _, v, e, _ => by simp [D.al] at e
  | .cell _, _, _, _, _, h => by
    simp only [Rp] at h ⊢
    obtain ⟨a, e, q⟩ := h
    exact ⟨a, io _ _ e, q⟩
theorem RpS.sh {W : Wd} {S : Hp} {d : D} {v : V} (h : RpS W S d v) : d.al = true := by
  cases d with
  | node o k xs => simp only [RpS] at h; obtain ⟨rfl, _⟩ := h; rfl
  | _ => rfl

/-! ### what a tree leans on -/
/-- w', H' know all that w, H know of the trees held as r says, those being held as f says -/
structure Kp (w w' : Wh) (H H' : Hp) (r r' : Ix) : Prop where
  S : SLe w.S w'.S
  io : ∀ (n : Nat) (a : Addr), w.io[n]? = some a → w'.io[n]? = some a
  own : ∀ a p, w.own a = some (r, p) → w'.own a = some (r', p)
  H : ∀ a p u, w.own a = some (r, p) → H a = some u → H' a = some u
theorem Kp.refl (w : Wh) (H : Hp) (r : Ix) : Kp w w H H r r := ⟨SLe.refl _, fun _ _ h => h, fun _ _ h => h, fun _ _ _ _ h => h⟩
mutual
theorem Rp.mono {W : Wd} {w w' : Wh} {H H' : Hp} {r r' : Ix} (kp : Kp w w' H H' r r') : ∀ {d : D} {p : Ps} {v : V}, Rp W w H r d p v → Rp W w' H' r' d p v
  | .non, _, _, h => by simpa only [Rp] using h
  | .bl _, _, _, h => by simpa only [Rp] using h
  | .int _, _, _, h => by simpa only [Rp] using h
  | .str _, _, _, h => by simpa only [Rp] using h
  | .node false k xs, _, v, h => by
    simp only [Rp] at h ⊢
    obtain ⟨a, vs, e, q, r⟩ := h
    exact ⟨a, vs, e, q.mono kp.S, RpSL.mono kp.S r⟩
  | .node true k xs, p, v, h => by
    simp only [Rp] at h ⊢
    obtain ⟨a, vs, ho, e, q, hh, hm, r⟩ := h
    exact ⟨a, vs, ho, e, kp.own _ _ q, kp.H _ _ _ q hh, hm, RpL.mono kp r⟩
  | .cell n, _, v, h => by
    simp only [Rp] at h ⊢
    obtain ⟨a, e, q⟩ := h
    exact ⟨a, kp.io _ _ e, q⟩
theorem RpL.mono {W : Wd} {w w' : Wh} {H H' : Hp} {r r' : Ix} (kp : Kp w w' H H' r r') : ∀ {xs : List D} {a : Addr} {j : Nat} {vs : List V}, RpL W w H r xs a j vs → RpL W w' H' r' xs a j vs
  | [], _, _, _, h => by simpa only [RpL] using h
  | x :: xs, a, j, vs, h => by
    simp only [RpL] at h ⊢
    obtain ⟨v, s, e, q, t⟩ := h
    exact ⟨v, s, e, Rp.mono kp q, RpL.mono kp t⟩
end
/-- what is frozen: the trees of r lie in S' -/
structure Fz (w : Wh) (S' : Hp) (H : Hp) (r : Ix) : Prop where
  S : SLe w.S S'
  H : ∀ a p u, w.own a = some (r, p) → H a = some u → S' a = some u
mutual
theorem Rp.frz {W : Wd} {w : Wh} {S' : Hp} {H : Hp} {r : Ix} (f : Fz w S' H r) : ∀ {d : D} {p : Ps} {v : V}, d.nc = true → Rp W w H r d p v → RpS W S' d.frz v
  | .non, _, _, _, h => by simpa only [Rp, D.frz, RpS] using h
  | .bl _, _, _, _, h => by simpa only [Rp, D.frz, RpS] using h
  | .int _, _, _, _, h => by simpa only [Rp, D.frz, RpS] using h
  | .str _, _, _, _, h => by simpa only [Rp, D.frz, RpS] using h
  | .node false k xs, _, v, e, h => by
    simp only [Rp] at h
    obtain ⟨a, vs, e1, q, t⟩ := h
    simp only [D.frz, RpS]
    exact ⟨trivial, a, vs, e1, q.mono f.S, RpSL.frz (by simpa [D.nc] using e) (t.mono f.S)⟩
  | .node true k xs, p, v, e, h => by
    simp only [Rp] at h
    obtain ⟨a, vs, ho, e1, q, hh, hm, t⟩ := h
    simp only [D.frz, RpS]
    exact ⟨trivial, a, vs, e1, ⟨ho, f.H _ _ _ q hh, hm⟩, RpL.frz f (by simpa [D.nc] using e) t⟩
  | .cell n, _, v, e, _ => by simp [D.nc] at e
theorem RpL.frz {W : Wd} {w : Wh} {S' : Hp} {H : Hp} {r : Ix} (f : Fz w S' H r) : ∀ {xs : List D} {a : Addr} {j : Nat} {vs : List V}, D.ncL xs = true → RpL W w H r xs a j vs → RpSL W S' (D.frzL xs) vs
  | [], _, _, _, _, h => by simpa only [RpL, D.frzL, RpSL] using h
  | x :: xs, a, j, vs, e, h => by
    simp only [RpL] at h
    obtain ⟨v, s, e1, q, t⟩ := h
    simp only [D.ncL, Bool.and_eq_true] at e
    simp only [D.frzL, RpSL]
    exact ⟨v, s, e1, Rp.frz f e.1 q, RpL.frz f e.2 t⟩
theorem RpS.frz {W : Wd} {S : Hp} : ∀ {d : D} {v : V}, d.nc = true → RpS W S d v → RpS W S d.frz v
  | .non, _, _, h => by simpa only [D.frz, RpS] using h
  | .bl _, _, _, h => by simpa only [D.frz, RpS] using h
  | .int _, _, _, h => by simpa only [D.frz, RpS] using h
  | .str _, _, _, h => by simpa only [D.frz, RpS] using h
  | .node o k xs, v, e, h => by
    simp only [RpS] at h
    obtain ⟨_, a, vs, e1, q, t⟩ := h
    simp only [D.frz, RpS]
    exact ⟨trivial, a, vs, e1, q, RpSL.frz (by simpa [D.nc] using e) t⟩
  | .cell n, v, e, _ => by simp [D.nc] at e
theorem RpSL.frz {W : Wd} {S : Hp} : ∀ {xs : List D} {vs : List V}, D.ncL xs = true → RpSL W S xs vs → RpSL W S (D.frzL xs) vs
  | [], _, _, h => by simpa only [D.frzL, RpSL] using h
  | x :: xs, vs, e, h => by
    simp only [RpSL] at h
    obtain ⟨v, s, e1, q, t⟩ := h
    simp only [D.ncL, Bool.and_eq_true] at e
    simp only [D.frzL, RpSL]
    exact ⟨v, s, e1, RpS.frz e.1 q, RpSL.frz e.2 t⟩
end
theorem HOm.inj {W : Wd} {vs us : List V} {k : Kn} {o : HO} (h : HOm W vs k o) (h' : HOm W us k o) : vs = us := by
  have z : ∀ {α : Type} {ks : List α} {vs us : List V}, ks.length = vs.length → ks.length = us.length → zipK ks vs = zipK ks us → vs = us := by
    intro α ks
    induction ks with
    | nil => intro vs us e1 e2 _; cases vs with
      | nil => cases us with
        | nil => rfl
        | cons _ _ => simp at e2
      | cons _ _ => simp at e1
    | cons k ks ih =>
      intro vs us e1 e2 e
      cases vs with
      | nil => simp at e1
      | cons v vs => cases us with
        | nil => simp at e2
        | cons u us =>
          simp only [zipK, List.cons.injEq, Prod.mk.injEq, true_and] at e
          rw [e.1, ih (by simpa using e1) (by simpa using e2) e.2]
  cases k with
  | tup => unfold HOm at h h'; rw [h] at h'; injection h'
  | lst => unfold HOm at h h'; rw [h] at h'; injection h'
  | slst => unfold HOm at h h'; obtain ⟨o1, e1⟩ := h; obtain ⟨o2, e2⟩ := h'; rw [e1] at e2; injection e2 with _ e2; injection e2
  | dK ks => unfold HOm at h h'; obtain ⟨e1, l1, _⟩ := h; obtain ⟨e2, l2, _⟩ := h'; rw [e1] at e2; injection e2 with e2; exact z (by simpa using l1) (by simpa using l2) e2
  | dT ks => unfold HOm at h h'; obtain ⟨e1, l1, _⟩ := h; obtain ⟨e2, l2, _⟩ := h'; rw [e1] at e2; injection e2 with e2; exact z (by simpa using l1) (by simpa using l2) e2
  | obj c ns => unfold HOm at h h'; obtain ⟨d1, e1, l1, _⟩ := h; obtain ⟨d2, e2, l2, _⟩ := h'; rw [e1] at e2; injection e2 with _ _ e2; exact z (by simpa using l1) (by simpa using l2) e2
  | exc c => unfold HOm at h h'; obtain ⟨o1, d1, e1, l1, _⟩ := h; obtain ⟨o2, d2, e2, l2, _⟩ := h'; rw [e1] at e2; injection e2 with _ e2; injection e2 with e2; rw [l1, l2, e2]
  | xd ns => unfold HOm at h h'; obtain ⟨e1, l1⟩ := h; obtain ⟨e2, l2⟩ := h'; rw [e1] at e2; injection e2 with e2; exact z (by simpa using l1) (by simpa using l2) e2
end VS
/-! VS3: states, what a piece of code leaves, and how that is put together. -/
namespace VS
open PySem PySem.Spec L2
open PyProof.Rows hiding St
abbrev noR : Own := fun _ => none
abbrev Wh.wth (w : Wh) (R : Own) : Wh := ⟨w.S, R, w.io⟩
/-- what a loop may lock -/
def lkb : HO → Bool
  | .dK _ => true
  | .dT _ => true
  | _ => false
/-- u is to be read at a -/
def RdX (H : Hp) (a : Addr) (u : HO) : Prop := Rd H a u ∧ (lkb u = false → H a = some u)
theorem RdX.of {H : Hp} {a : Addr} {u : HO} (h : H a = some u) : RdX H a u := ⟨.inl h, fun _ => h⟩
theorem RdX.ne {H : Hp} {a : Addr} {u : HO} (h : RdX H a u) : H a ≠ none := by
  rcases h.1 with z | ⟨_, z⟩ <;> rw [z] <;> simp
/-- a key's part -/
def isKV : V → Bool
  | .int _ => true
  | .str _ => true
  | _ => false
/-- a tuple that may be a dict's key: nobody holds it alone -/
def ktO : HO → Bool
  | .tup vs => vs.all isKV
  | _ => false
/-- something stands here that somebody may hold alone -/
def Lv (H : Hp) (a : Addr) : Prop := ∃ u, H a = some u ∧ ktO u = false
theorem Lv.ne {H : Hp} {a : Addr} (h : Lv H a) : H a ≠ none := by
  obtain ⟨u, e, _⟩ := h
  rw [e]; simp
theorem Lv.of {H : Hp} {a : Addr} {u : HO} (h : H a = some u) (k : ktO u = false := by rfl) : Lv H a := ⟨u, h, k⟩
theorem nLv {H : Hp} {a : Addr} (h : H a = none) : ¬ Lv H a := fun q => q.ne h
theorem Lv.keep {H H' : Hp} {a : Addr} (h : Lv H a) (k : ∀ u, H a = some u → H' a = some u) : Lv H' a := by
  obtain ⟨u, e, q⟩ := h
  exact ⟨u, k u e, q⟩
/-- the state of a frame as the core language has it, and as it lies -/
structure SRep (W : Wd) (w : Wh) (H : Hp) (σ : St) (st : Sg) : Prop where
  sle : ∀ a u, w.S a = some u → RdX H a u
  sno : ∀ a t, w.own a = some t → w.S a = none ∧ Lv H a
  iol : w.io.length = st.m.length
  cel : ∀ n d, st.m[n]? = some d → ∃ a, w.io[n]? = some a ∧ Rp W w H (.cell n) d none (.ref a)
  slo : ∀ i d, st.sl[i]? = some (some d) → ∃ v, σ[i]? = some (some v) ∧ Rp W w H (.slot i) d none v
  len : st.sl.length = σ.length
/-- from w, H on: w', H', and R, what is held besides -/
structure Fr (w : Wh) (H : Hp) (w' : Wh) (R : Own) (H' : Hp) : Prop where
  S : SLe w.S w'.S
  io : ∀ (n : Nat) (a : Addr), w.io[n]? = some a → w'.io[n]? = some a
  dom : ∀ x, w'.own x ≠ none → w.own x ≠ none ∨ H x = none
  domR : ∀ x, R x ≠ none → w.own x ≠ none ∨ H x = none
  Sd : ∀ x, w'.S x ≠ none → w.S x ≠ none ∨ w.own x ≠ none ∨ ¬ Lv H x
  keep : ∀ x u, w.own x = none → H x = some u → H' x = some u
  R : ∀ x, R x ≠ none → w'.own x = none ∧ w'.S x = none ∧ Lv H' x
theorem Fr.nlv {w w' : Wh} {R : Own} {H H' : Hp} (a : Fr w H w' R H') {x : Addr} (q : ¬ Lv H' x) : w.own x ≠ none ∨ ¬ Lv H x := by
  by_cases z : w.own x = none
  · exact .inr fun h => q (h.keep fun u e => a.keep x u z e)
  · exact .inl z
theorem Fr.refl (w : Wh) (H : Hp) : Fr w H w noR H :=
  ⟨SLe.refl _, fun _ _ h => h, fun _ h => .inl h, fun _ h => absurd rfl h, fun _ h => .inl h, fun _ _ _ h => h, fun _ h => absurd rfl h⟩
/-- two maps side by side -/
def ownU (A B : Own) : Own := fun x => match A x with
  | some t => some t
  | none => B x
theorem ownU_left {A B : Own} {x : Addr} {t : Ix × Ps} (h : A x = some t) : ownU A B x = some t := by unfold ownU; rw [h]
theorem ownU_right {A B : Own} {x : Addr} (h : A x = none) : ownU A B x = B x := by unfold ownU; rw [h]
theorem ownU_ne {A B : Own} {x : Addr} (h : ownU A B x ≠ none) : A x ≠ none ∨ B x ≠ none := by
  unfold ownU at h
  cases e : A x with
  | some t => exact .inl (by simp)
  | none => rw [e] at h; exact .inr h
/-- the holders renamed -/
def ren (f : Ix → Ix) (R : Own) : Own := fun x => (R x).map fun t => (f t.1, t.2)
theorem ren_ne {f : Ix → Ix} {R : Own} {x : Addr} : ren f R x ≠ none ↔ R x ≠ none := by
  unfold ren; cases R x <;> simp
theorem ren_some {f : Ix → Ix} {R : Own} {x : Addr} {r : Ix} {p : Ps} (h : R x = some (r, p)) : ren f R x = some (f r, p) := by
  unfold ren; rw [h]; rfl
section
variable {w w1 w2 : Wh} {H H1 H2 : Hp} {R R1 R2 : Own}
theorem Fr.trans (a : Fr w H w1 R1 H1) (b : Fr w1 H1 w2 R2 H2) : Fr w H w2 (ownU R1 R2) H2 where
  S := a.S.trans b.S
  io := fun n x h => b.io n x (a.io n x h)
  dom := fun x h => by
    rcases b.dom x h with q | q
    · exact a.dom x q
    · by_cases z : w.own x = none
      · cases e : H x with
        | none => exact .inr rfl
        | some u => rw [a.keep x u z e] at q; cases q
      · exact .inl z
  domR := fun x h => by
    rcases ownU_ne h with h | h
    · exact a.domR x h
    · rcases b.domR x h with q | q
      · exact a.dom x q
      · by_cases z : w.own x = none
        · cases e : H x with
          | none => exact .inr rfl
          | some u => rw [a.keep x u z e] at q; cases q
        · exact .inl z
  Sd := fun x h => by
    rcases b.Sd x h with q | q | q
    · exact a.Sd x q
    · exact .inr ((a.dom x q).imp id nLv)
    · exact .inr (a.nlv q)
  keep := fun x u n h => by
    by_cases z : w1.own x = none
    · exact b.keep x u z (a.keep x u n h)
    · rcases a.dom x z with q | q
      · exact absurd n q
      · rw [h] at q; cases q
  R := fun x h => by
    cases e : R1 x with
    | some t =>
      obtain ⟨q1, q2, q3⟩ := a.R x (by rw [e]; simp)
      refine ⟨?_, ?_, ?_⟩
      · cases z : w2.own x with
        | none => rfl
        | some t' => rcases b.dom x (by rw [z]; simp) with y | y
                     · exact absurd q1 y
                     · exact absurd y q3.ne
      · cases z : w2.S x with
        | none => rfl
        | some t' => rcases b.Sd x (by rw [z]; simp) with y | y | y
                     · exact absurd q2 y
                     · exact absurd q1 y
                     · exact absurd q3 y
      · exact q3.keep fun u e => b.keep x u q1 e
    | none => rw [ownU_right e] at h; exact b.R x h
/-- less is held -/
theorem Fr.less (a : Fr w H w1 R1 H1) (h : ∀ x, R x ≠ none → R1 x ≠ none) : Fr w H w1 R H1 :=
  ⟨a.S, a.io, a.dom, fun x q => a.domR x (h x q), a.Sd, a.keep, fun x q => a.R x (h x q)⟩
theorem Fr.noR (a : Fr w H w1 R1 H1) : Fr w H w1 noR H1 := a.less fun _ h => absurd rfl h
/-- what is held stays through what comes behind -/
theorem Fr.held {W : Wd} (a : Fr w H w1 R1 H1) (b : Fr w1 H1 w2 R2 H2) {r : Ix} {d : D} {p : Ps} {v : V} (h : Rp W (w1.wth R1) H1 r d p v) : Rp W (w2.wth R1) H2 r d p v :=
  Rp.mono (w := w1.wth R1) (w' := w2.wth R1) ⟨b.S, b.io, fun _ _ q => q, fun x p u q e => b.keep x u (a.R x (by rw [show R1 x = _ from q]; simp)).1 e⟩ h
theorem held_left {W : Wd} {r : Ix} {d : D} {p : Ps} {v : V} (h : Rp W (w.wth R1) H r d p v) : Rp W (w.wth (ownU R1 R2)) H r d p v :=
  Rp.mono (w := w.wth R1) (w' := w.wth (ownU R1 R2)) ⟨SLe.refl _, fun _ _ q => q, fun _ _ q => ownU_left q, fun _ _ _ _ e => e⟩ h
theorem held_right {W : Wd} {r : Ix} {d : D} {p : Ps} {v : V} (dj : ∀ x, R2 x ≠ none → R1 x = none) (h : Rp W (w.wth R2) H r d p v) : Rp W (w.wth (ownU R1 R2)) H r d p v :=
  Rp.mono (w := w.wth R2) (w' := w.wth (ownU R1 R2)) ⟨SLe.refl _, fun _ _ q => q, fun x p q => (ownU_right (dj x (by rw [show R2 x = _ from q]; simp))).trans q, fun _ _ _ _ e => e⟩ h
/-- what comes behind holds nothing that was held ahead -/
theorem Fr.apart (a : Fr w H w1 R1 H1) (b : Fr w1 H1 w2 R2 H2) : ∀ x, R2 x ≠ none → R1 x = none := fun x h => by
  cases e : R1 x with
  | none => rfl
  | some t =>
    obtain ⟨q1, q2, q3⟩ := a.R x (by rw [e]; simp)
    rcases b.domR x h with y | y
    · exact absurd q1 y
    · exact absurd y q3.ne
theorem Fr.ren (f : Ix → Ix) (a : Fr w H w1 R1 H1) : Fr w H w1 (ren f R1) H1 := a.less fun _ h => ren_ne.mp h
theorem held_ren {W : Wd} {r : Ix} {d : D} {p : Ps} {v : V} (f : Ix → Ix) (h : Rp W (w.wth R) H r d p v) : Rp W (w.wth (ren f R)) H (f r) d p v :=
  Rp.mono (w := w.wth R) (w' := w.wth (ren f R)) ⟨SLe.refl _, fun _ _ q => q, fun _ _ q => ren_some q, fun _ _ _ _ e => e⟩ h
end

/-! ### what is wanted behind a piece of code -/
section
variable (W : Wd) (w : Wh) (H : Hp) (σ : St)
def PostX (E : L2.WX) (x : Xc) (st : Sg) : Prop := ∀ w' σ' H' dd vs, Fr w H w' noR H' → SRep W w' H' σ' st → RpSL W w'.S x.xs vs → w'.S dd = some (.xd (zipK (x.ns.map sn) vs)) → x.ns.length = vs.length ∧ x.c ∈ W.xs → E (.ref (W.cls x.c)) (some dd) σ' H'
def PostE (Q : VK) (E : L2.WX) : Rs D → Prop
  | .ok d st => ∀ w' R H' v, Fr w H w' R H' → SRep W w' H' σ st → Rp W (w'.wth R) H' (.temp 0) d none v → Q v H'
  | .ex x st => PostX W w H E x st
  | .bad => False
def PostT (Q : Bool → Hp → Prop) (E : L2.WX) : Rs Bool → Prop
  | .ok b st => ∀ w' H', Fr w H w' noR H' → SRep W w' H' σ st → Q b H'
  | .ex x st => PostX W w H E x st
  | .bad => False
end
/-- a row of things that are held, by the numbers from j on -/
def RpT (W : Wd) (w : Wh) (H : Hp) : Nat → List D → List V → Prop
  | _, [], vs => vs = []
  | j, d :: ds, vs => ∃ v s, vs = v :: s ∧ Rp W w H (.temp j) d none v ∧ RpT W w H (j + 1) ds s
section
variable (W : Wd) (w : Wh) (H : Hp) (σ : St)
def PostL (j : Nat) (Q : List V → Hp → Prop) (E : L2.WX) : Rs (List D) → Prop
  | .ok ds st => ∀ w' R H' vs, Fr w H w' R H' → SRep W w' H' σ st → RpT W (w'.wth R) H' j ds vs → Q vs H'
  | .ex x st => PostX W w H E x st
  | .bad => False
end
section
variable {W : Wd} {w w1 w2 : Wh} {H H1 H2 : Hp} {R R1 R2 : Own} {σ : St} {Q : VK} {E : L2.WX}
theorem PostX.shift {x : Xc} {st : Sg} (fr : Fr w H w1 R1 H1) (h : PostX W w H E x st) : PostX W w1 H1 E x st :=
  fun w' σ' H' dd vs f s r e l => h w' σ' H' dd vs (fr.trans f).noR s r e l
/-- THE STEP: a part is walked from w1 on, what comes behind it is told as it was from w on -/
theorem PostE.step {r : Rs D} {f : D → Sg → Rs D} (fr : Fr w H w1 R1 H1) (h : PostE W w H σ Q E (r.bind f)) :
    PostE W w1 H1 σ (fun v H2 => ∃ w2 R2 d st, r = .ok d st ∧ Fr w1 H1 w2 R2 H2 ∧ SRep W w2 H2 σ st ∧ Rp W (w2.wth R2) H2 (.temp 0) d none v ∧ PostE W w H σ Q E (f d st)) E r := by
  cases r with
  | ok d st => exact fun w2 R2 H2 v f2 s2 h2 => ⟨w2, R2, d, st, rfl, f2, s2, h2, h⟩
  | ex x st => exact PostX.shift fr h
  | bad => exact h
theorem PostE.stepT {r : Rs Bool} {f : Bool → Sg → Rs D} (fr : Fr w H w1 R1 H1) (h : PostE W w H σ Q E (r.bind f)) :
    PostT W w1 H1 σ (fun b H2 => ∃ w2 st, r = .ok b st ∧ Fr w1 H1 w2 noR H2 ∧ SRep W w2 H2 σ st ∧ PostE W w H σ Q E (f b st)) E r := by
  cases r with
  | ok d st => exact fun w2 H2 f2 s2 => ⟨w2, st, rfl, f2, s2, h⟩
  | ex x st => exact PostX.shift fr h
  | bad => exact h
theorem PostE.stepL {j : Nat} {r : Rs (List D)} {f : List D → Sg → Rs D} (fr : Fr w H w1 R1 H1) (h : PostE W w H σ Q E (r.bind f)) :
    PostL W w1 H1 σ j (fun vs H2 => ∃ w2 R2 ds st, r = .ok ds st ∧ Fr w1 H1 w2 R2 H2 ∧ SRep W w2 H2 σ st ∧ RpT W (w2.wth R2) H2 j ds vs ∧ PostE W w H σ Q E (f ds st)) E r := by
  cases r with
  | ok d st => exact fun w2 R2 H2 vs f2 s2 h2 => ⟨w2, R2, d, st, rfl, f2, s2, h2, h⟩
  | ex x st => exact PostX.shift fr h
  | bad => exact h
theorem PostT.step {Q : Bool → Hp → Prop} {r : Rs D} {f : D → Sg → Rs Bool} (fr : Fr w H w1 R1 H1) (h : PostT W w H σ Q E (r.bind f)) :
    PostE W w1 H1 σ (fun v H2 => ∃ w2 R2 d st, r = .ok d st ∧ Fr w1 H1 w2 R2 H2 ∧ SRep W w2 H2 σ st ∧ Rp W (w2.wth R2) H2 (.temp 0) d none v ∧ PostT W w H σ Q E (f d st)) E r := by
  cases r with
  | ok d st => exact fun w2 R2 H2 v f2 s2 h2 => ⟨w2, R2, d, st, rfl, f2, s2, h2, h⟩
  | ex x st => exact PostX.shift fr h
  | bad => exact h
theorem PostT.stepT {Q : Bool → Hp → Prop} {r : Rs Bool} {f : Bool → Sg → Rs Bool} (fr : Fr w H w1 R1 H1) (h : PostT W w H σ Q E (r.bind f)) :
    PostT W w1 H1 σ (fun b H2 => ∃ w2 st, r = .ok b st ∧ Fr w1 H1 w2 noR H2 ∧ SRep W w2 H2 σ st ∧ PostT W w H σ Q E (f b st)) E r := by
  cases r with
  | ok d st => exact fun w2 H2 f2 s2 => ⟨w2, st, rfl, f2, s2, h⟩
  | ex x st => exact PostX.shift fr h
  | bad => exact h
theorem PostL.step {j : Nat} {Q : List V → Hp → Prop} {r : Rs D} {f : D → Sg → Rs (List D)} (fr : Fr w H w1 R1 H1) (h : PostL W w H σ j Q E (r.bind f)) :
    PostE W w1 H1 σ (fun v H2 => ∃ w2 R2 d st, r = .ok d st ∧ Fr w1 H1 w2 R2 H2 ∧ SRep W w2 H2 σ st ∧ Rp W (w2.wth R2) H2 (.temp 0) d none v ∧ PostL W w H σ j Q E (f d st)) E r := by
  cases r with
  | ok d st => exact fun w2 R2 H2 v f2 s2 h2 => ⟨w2, R2, d, st, rfl, f2, s2, h2, h⟩
  | ex x st => exact PostX.shift fr h
  | bad => exact h
theorem PostL.stepL {j i : Nat} {Q : List V → Hp → Prop} {r : Rs (List D)} {f : List D → Sg → Rs (List D)} (fr : Fr w H w1 R1 H1) (h : PostL W w H σ i Q E (r.bind f)) :
    PostL W w1 H1 σ j (fun vs H2 => ∃ w2 R2 ds st, r = .ok ds st ∧ Fr w1 H1 w2 R2 H2 ∧ SRep W w2 H2 σ st ∧ RpT W (w2.wth R2) H2 j ds vs ∧ PostL W w H σ i Q E (f ds st)) E r := by
  cases r with
  | ok d st => exact fun w2 R2 H2 vs f2 s2 h2 => ⟨w2, R2, d, st, rfl, f2, s2, h2, h⟩
  | ex x st => exact PostX.shift fr h
  | bad => exact h
/-- the end: a thing told as it is -/
theorem PostE.of {o : Option D} {st : Sg} (h : PostE W w H σ Q E (Rs.of o st)) : ∃ d, o = some d ∧ PostE W w H σ Q E (.ok d st) := by
  cases o with
  | none => exact h.elim
  | some d => exact ⟨d, rfl, h⟩
theorem PostE.ofB {o : Option D} {st : Sg} {f : D → Sg → Rs D} (h : PostE W w H σ Q E ((Rs.of o st).bind f)) : ∃ d, o = some d ∧ PostE W w H σ Q E (f d st) := by
  cases o with
  | none => exact h.elim
  | some d => exact ⟨d, rfl, h⟩
theorem PostE.scal {d : D} {st : Sg} {v : V} (h : PostE W w H σ Q E (.ok d st)) (fr : Fr w H w1 R1 H1) (s : SRep W w1 H1 σ st) (hv : RpS W w1.S d v) : Q v H1 :=
  h w1 noR H1 v fr.noR s (Rp.of_sh (w := w1.wth noR) hv)
end

/-! ### a new thing -/
section
variable {W : Wd} {w w1 : Wh} {H H1 : Hp} {σ : St} {st : Sg}
theorem rdX_upd {H : Hp} {p a : Addr} {o u : HO} (hp : H p = none) (h : RdX H a u) : RdX (upd H p o) a u := by
  obtain ⟨h, q⟩ := h
  refine ⟨?_, fun z => by rw [upd_ne (ne_of_none (q z) hp)]; exact q z⟩
  rcases h with h | ⟨z, h⟩
  · exact .inl (by rw [upd_ne (ne_of_none h hp)]; exact h)
  · exact .inr ⟨z, by rw [upd_ne (ne_of_none h hp)]; exact h⟩
/-- a thing laid anew leaves the state -/
theorem SRep.laid {p : Addr} {o : HO} (s : SRep W w H σ st) (hp : H p = none) : SRep W w (upd H p o) σ st := by
  have no : w.own p = none := by
    cases e : w.own p with
    | none => rfl
    | some t => exact absurd hp (s.sno p t e).2.ne
  have kp : ∀ r, Kp w w H (upd H p o) r r := fun r => ⟨SLe.refl _, fun _ _ h => h, fun _ _ h => h, fun a q u e h => by rw [upd_ne (ne_of_none h hp)]; exact h⟩
  refine ⟨fun a u h => rdX_upd hp (s.sle a u h), fun a t h => ⟨(s.sno a t h).1, ?_⟩, s.iol, fun n d h => ?_, fun i d h => ?_, s.len⟩
  · have hl := (s.sno a t h).2
    exact hl.keep fun u e => by rw [upd_ne (ne_of_none e hp)]; exact e
  · obtain ⟨a, e, q⟩ := s.cel n d h
    exact ⟨a, e, Rp.mono (kp _) q⟩
  · obtain ⟨v, e, q⟩ := s.slo i d h
    exact ⟨v, e, Rp.mono (kp _) q⟩
end
end VS
/-! VS4: what is read, what is made. -/
namespace VS
open PySem PySem.Spec L2
open PyProof.Rows hiding St
/-- known somewhere: of the state, or held -/
def RpA (W : Wd) (w : Wh) (R : Own) (H : Hp) (d : D) (v : V) : Prop := ∃ r p, Rp W w H r d p v ∨ Rp W (w.wth R) H r d p v
/-- may be read at a -/
def RdK (W : Wd) (H : Hp) (a : Addr) (vs : List V) (k : Kn) : Prop := ∃ o, RdX H a o ∧ HOm W vs k o
def RpAL (W : Wd) (w : Wh) (R : Own) (H : Hp) : List D → List V → Prop
  | [], vs => vs = []
  | x :: xs, vs => ∃ v s, vs = v :: s ∧ RpA W w R H x v ∧ RpAL W w R H xs s
section
variable {W : Wd} {w w1 w2 : Wh} {H H1 H2 : Hp} {R R1 R2 : Own} {σ : L2.St} {st : Sg} {Q : VK} {E : L2.WX}
theorem RpA.of {r : Ix} {d : D} {p : Ps} {v : V} (h : Rp W w H r d p v) : RpA W w R H d v := ⟨r, p, .inl h⟩
theorem RpA.held {r : Ix} {d : D} {p : Ps} {v : V} (h : Rp W (w.wth R) H r d p v) : RpA W w R H d v := ⟨r, p, .inr h⟩
theorem RpA.ofS {d : D} {v : V} (h : RpS W w.S d v) : RpA W w R H d v := ⟨.temp 0, none, .inl (Rp.of_sh h)⟩
theorem RpAL.ofS : ∀ {xs : List D} {vs : List V}, RpSL W w.S xs vs → RpAL W w R H xs vs
  | [], _, h => by simpa only [RpAL, RpSL] using h
  | x :: xs, vs, h => by
    simp only [RpSL] at h
    obtain ⟨v, s, e, q, t⟩ := h
    exact ⟨v, s, e, RpA.ofS q, RpAL.ofS t⟩
theorem RpAL.ofL {r : Ix} : ∀ {xs : List D} {a : Addr} {j : Nat} {vs : List V}, RpL W w H r xs a j vs → RpAL W w R H xs vs
  | [], _, _, _, h => by simpa only [RpAL, RpL] using h
  | x :: xs, a, j, vs, h => by
    simp only [RpL] at h
    obtain ⟨v, s, e, q, t⟩ := h
    exact ⟨v, s, e, ⟨r, _, .inl q⟩, RpAL.ofL t⟩
theorem RpAL.ofLR {r : Ix} : ∀ {xs : List D} {a : Addr} {j : Nat} {vs : List V}, RpL W (w.wth R) H r xs a j vs → RpAL W w R H xs vs
  | [], _, _, _, h => by simpa only [RpAL, RpL] using h
  | x :: xs, a, j, vs, h => by
    simp only [RpL] at h
    obtain ⟨v, s, e, q, t⟩ := h
    exact ⟨v, s, e, ⟨r, _, .inr q⟩, RpAL.ofLR t⟩
theorem RpAL.len : ∀ {xs : List D} {vs : List V}, RpAL W w R H xs vs → xs.length = vs.length
  | [], _, h => by simp only [RpAL] at h; subst h; rfl
  | x :: xs, vs, h => by
    simp only [RpAL] at h
    obtain ⟨v, s, e, _, t⟩ := h
    rw [e, List.length_cons, List.length_cons, RpAL.len t]
theorem RpSL.len {S : Hp} : ∀ {xs : List D} {vs : List V}, RpSL W S xs vs → xs.length = vs.length
  | [], _, h => by simp only [RpSL] at h; subst h; rfl
  | x :: xs, vs, h => by
    simp only [RpSL] at h
    obtain ⟨v, s, e, _, t⟩ := h
    rw [e, List.length_cons, List.length_cons, RpSL.len t]
theorem Sat.rd {a : Addr} {vs : List V} {k : Kn} (l : ∀ a u, w.S a = some u → RdX H a u) (h : Sat W w.S a vs k) : RdK W H a vs k := by
  obtain ⟨o, h, q⟩ := h
  exact ⟨o, l _ _ h, q⟩
/-- a compound thing, read -/
theorem RpA.node {o : Bool} {k : Kn} {xs : List D} {x : V} (l : ∀ a u, w.S a = some u → RdX H a u) (h : RpA W w R H (.node o k xs) x) :
    ∃ a vs, x = .ref a ∧ RdK W H a vs k ∧ RpAL W w R H xs vs := by
  obtain ⟨r, p, h⟩ := h
  cases o with
  | false =>
    rcases h with h | h
    · simp only [Rp] at h
      obtain ⟨a, vs, e, q, t⟩ := h
      exact ⟨a, vs, e, q.rd l, RpAL.ofS t⟩
    · simp only [Rp] at h
      obtain ⟨a, vs, e, q, t⟩ := h
      exact ⟨a, vs, e, Sat.rd (w := w) l q, RpAL.ofS t⟩
  | true =>
    rcases h with h | h
    · simp only [Rp] at h
      obtain ⟨a, vs, ho, e, _, hh, hm, t⟩ := h
      exact ⟨a, vs, e, ⟨ho, RdX.of hh, hm⟩, RpAL.ofL t⟩
    · simp only [Rp] at h
      obtain ⟨a, vs, ho, e, _, hh, hm, t⟩ := h
      exact ⟨a, vs, e, ⟨ho, RdX.of hh, hm⟩, RpAL.ofLR t⟩
theorem RpA.sh {d : D} {x : V} (e : d.sh = true) (h : RpA W w R H d x) : RpS W w.S d x := by
  obtain ⟨r, p, h | h⟩ := h
  · exact Rp.sh e h
  · exact Rp.sh (w := w.wth R) e h
theorem RpAL.sh : ∀ {xs : List D} {vs : List V}, D.shL xs = true → RpAL W w R H xs vs → RpSL W w.S xs vs
  | [], _, _, h => by simpa only [RpAL, RpSL] using h
  | x :: xs, vs, e, h => by
    simp only [RpAL] at h
    obtain ⟨v, s, e1, q, t⟩ := h
    simp only [D.shL, Bool.and_eq_true] at e
    simp only [RpSL]
    exact ⟨v, s, e1, q.sh e.1, RpAL.sh e.2 t⟩
theorem RpAL.get : ∀ {xs : List D} {vs : List V} {i : Nat} {d : D}, RpAL W w R H xs vs → xs[i]? = some d → ∃ v, vs[i]? = some v ∧ RpA W w R H d v
  | [], _, _, _, _, e => by simp at e
  | x :: xs, vs, 0, d, h, e => by
    simp only [RpAL] at h
    obtain ⟨v, s, rfl, q, t⟩ := h
    simp at e; subst e
    exact ⟨v, by simp, q⟩
  | x :: xs, vs, i + 1, d, h, e => by
    simp only [RpAL] at h
    obtain ⟨v, s, rfl, q, t⟩ := h
    obtain ⟨v', e1, q1⟩ := RpAL.get t (by simpa using e)
    exact ⟨v', by simpa using e1, q1⟩
/-- what a cell holds -/
theorem RpA.drf {d : D} {x : V} (s : SRep W w H σ st) (h : RpA W w R H d x) : RpA W w R H (drf st.m d) x := by
  cases d with
  | cell n =>
    have e : ∃ a, w.io[n]? = some a ∧ x = .ref a := by
      obtain ⟨r, p, h | h⟩ := h
      · simpa only [Rp] using h
      · simpa only [Rp] using h
    obtain ⟨a, e1, e2⟩ := e
    show RpA W w R H ((st.m[n]?).getD (.cell n)) x
    cases q : st.m[n]? with
    | none => exact h
    | some c =>
      show RpA W w R H c x
      obtain ⟨b, e3, t⟩ := s.cel n c q
      rw [e1] at e3
      cases e3
      subst e2
      exact RpA.of t
  | _ => exact h
theorem RpA.int {i : Int} {x : V} (h : RpA W w R H (.int i) x) : x = .int i := by
  obtain ⟨r, p, h | h⟩ := h <;> simpa only [Rp] using h
theorem RpA.str {i : List Nat} {x : V} (h : RpA W w R H (.str i) x) : x = .str (cps i) := by
  obtain ⟨r, p, h | h⟩ := h <;> simpa only [Rp] using h
theorem RpA.bl {i : Bool} {x : V} (h : RpA W w R H (.bl i) x) : x = .bl i := by
  obtain ⟨r, p, h | h⟩ := h <;> simpa only [Rp] using h
theorem RpA.non {x : V} (h : RpA W w R H .non x) : x = .non := by
  obtain ⟨r, p, h | h⟩ := h <;> simpa only [Rp] using h
/-- read on, later -/
theorem RpA.left (a : Fr w H w1 R1 H1) (b : Fr w1 H1 w2 R2 H2) {d : D} {v : V} (h : Rp W (w1.wth R1) H1 (.temp 0) d none v) : RpA W w2 (ownU R1 R2) H2 d v :=
  RpA.held (held_left (a.held b h))
theorem RpA.right (a : Fr w H w1 R1 H1) (b : Fr w1 H1 w2 R2 H2) {d : D} {v : V} (h : Rp W (w2.wth R2) H2 (.temp 0) d none v) : RpA W w2 (ownU R1 R2) H2 d v :=
  RpA.held (held_right (a.apart b) h)
theorem RpA.rightA (a : Fr w H w1 R1 H1) (b : Fr w1 H1 w2 R2 H2) {d : D} {v : V} (h : RpA W w2 R2 H2 d v) : RpA W w2 (ownU R1 R2) H2 d v := by
  obtain ⟨r, p, h | h⟩ := h
  · exact RpA.of h
  · exact RpA.held (held_right (a.apart b) h)

/-! ### lists and tuples to be read -/
theorem RdK.list {K : PySem.W.Frag} {a : Addr} {vs : List V} (h : RdK W H a vs .lst) : SqL K H a vs := by
  obtain ⟨o, h, q⟩ := h
  have q' : o = .lst vs := q
  subst q'; exact .inl h.1
theorem RdK.list' {a : Addr} {vs : List V} (h : RdK W H a vs .lst) : H a = some (.lst vs) := by
  obtain ⟨o, h, q⟩ := h
  have q' : o = .lst vs := q
  subst q'; exact h.2 rfl
theorem RdK.slist {K : PySem.W.Frag} {a : Addr} {vs : List V} (h : RdK W H a vs .slst) : SqL K H a vs := by
  obtain ⟨o, h, ob, q⟩ := h
  subst q; exact .inl (.inr ⟨ob, h.2 rfl⟩)
theorem RdK.tup {K : PySem.W.Frag} {a : Addr} {vs : List V} (h : RdK W H a vs .tup) : SqT K H a vs := by
  obtain ⟨o, h, q⟩ := h
  have q' : o = .tup vs := q
  subst q'; exact .inl h.1
theorem RdK.tup' {a : Addr} {vs : List V} (h : RdK W H a vs .tup) : H a = some (.tup vs) := by
  obtain ⟨o, h, q⟩ := h
  have q' : o = .tup vs := q
  subst q'; exact h.2 rfl

/-! ### new things -/
def one (p : Addr) : Own := fun x => if x = p then some (.temp 0, none) else none
theorem one_same (p : Addr) : one p p = some (.temp 0, none) := by unfold one; rw [if_pos rfl]
theorem one_ne {p x : Addr} (h : one p x ≠ none) : x = p := by
  unfold one at h
  by_cases e : x = p
  · exact e
  · rw [if_neg e] at h; exact absurd rfl h
theorem RpL.ofS {r : Ix} {a : Addr} : ∀ {xs : List D} {j : Nat} {vs : List V}, RpSL W w.S xs vs → RpL W w H r xs a j vs
  | [], _, _, h => by simpa only [RpL, RpSL] using h
  | x :: xs, j, vs, h => by
    simp only [RpSL] at h
    obtain ⟨v, s, e, q, t⟩ := h
    simp only [RpL]
    exact ⟨v, s, e, Rp.of_sh q, RpL.ofS t⟩
theorem Fr.new {p : Addr} {o : HO} (fr : Fr w H w1 R1 H1) (s : SRep W w1 H1 σ st) (hp : H1 p = none) (hk : ktO o = false := by rfl) : Fr w H w1 (one p) (upd H1 p o) := by
  have no : w1.own p = none := by
    cases e : w1.own p with
    | none => rfl
    | some t => exact absurd hp (s.sno p t e).2.ne
  have nS : w1.S p = none := by
    cases e : w1.S p with
    | none => rfl
    | some t => exact absurd hp (s.sle p t e).ne
  refine ⟨fr.S, fr.io, fr.dom, fun x h => ?_, fr.Sd, fun x u n h => ?_, fun x h => ?_⟩
  · have e := one_ne h
    subst e
    by_cases z : w.own x = none
    · cases e : H x with
      | none => exact .inr rfl
      | some u => rw [fr.keep x u z e] at hp; cases hp
    · exact .inl z
  · have q := fr.keep x u n h
    rw [upd_ne (ne_of_none q hp)]; exact q
  · have e := one_ne h
    subst e
    exact ⟨no, nS, Lv.of upd_same hk⟩
/-- a new thing of shared things -/
theorem PostE.new {k : Kn} {xs : List D} {vs : List V} {o : HO} (h : PostE W w H σ Q E (.ok (.node true k xs) st)) (fr : Fr w H w1 R1 H1) (s : SRep W w1 H1 σ st) (hx : RpSL W w1.S xs vs) (hm : HOm W vs k o) (hk : ktO o = false := by rfl) :
    ∀ p, H1 p = none → Q (.ref p) (upd H1 p o) := fun p hp =>
  h w1 (one p) (upd H1 p o) (.ref p) (fr.new s hp hk) (s.laid hp) (by
    simp only [Rp]
    exact ⟨p, vs, o, rfl, one_same p, upd_same, hm, RpL.ofS hx⟩)
/-- the shared part grows by a new thing -/
theorem grow {p : Addr} {o : HO} (fr : Fr w H w1 R1 H1) (s : SRep W w1 H1 σ st) (hp : H1 p = none) :
    Fr w H ⟨upd w1.S p o, w1.own, w1.io⟩ noR (upd H1 p o) ∧ SRep W ⟨upd w1.S p o, w1.own, w1.io⟩ (upd H1 p o) σ st := by
  have no : w1.own p = none := by
    cases e : w1.own p with
    | none => rfl
    | some t => exact absurd hp (s.sno p t e).2.ne
  have nS : w1.S p = none := by
    cases e : w1.S p with
    | none => rfl
    | some t => exact absurd hp (s.sle p t e).ne
  have hS : SLe w1.S (upd w1.S p o) := fun a u h => by rw [upd_ne (ne_of_none h nS)]; exact h
  have s1 := s.laid (o := o) hp
  have kp : ∀ r, Kp w1 ⟨upd w1.S p o, w1.own, w1.io⟩ (upd H1 p o) (upd H1 p o) r r := fun r => ⟨hS, fun _ _ h => h, fun _ _ h => h, fun _ _ _ _ h => h⟩
  refine ⟨⟨fr.S.trans hS, fr.io, fr.dom, fun _ h => absurd rfl h, fun x h => ?_, fun x u n h => ?_, fun _ h => absurd rfl h⟩, ⟨fun a u h => ?_, fun a t h => ⟨?_, (s1.sno a t h).2⟩, s1.iol, fun n d h => ?_, fun i d h => ?_, s1.len⟩⟩
  · by_cases z : x = p
    · subst z
      by_cases z : w.own x = none
      · cases e : H x with
        | none => exact .inr (.inr (nLv e))
        | some u => rw [fr.keep x u z e] at hp; cases hp
      · exact .inr (.inl z)
    · have h' : w1.S x ≠ none := by have h2 : upd w1.S p o x ≠ none := h; rwa [upd_ne z] at h2
      exact fr.Sd x h'
  · have q := fr.keep x u n h
    rw [upd_ne (ne_of_none q hp)]; exact q
  · by_cases z : a = p
    · subst z
      have h' : upd w1.S a o a = some u := h
      rw [upd_same] at h'; cases h'
      exact RdX.of upd_same
    · have h' : upd w1.S p o a = some u := h
      rw [upd_ne z] at h'
      exact s1.sle a u h'
  · show upd w1.S p o a = none
    rw [upd_ne (fun z => by subst z; exact absurd no (by rw [show w1.own a = some t from h]; simp))]
    exact (s.sno a t h).1
  · obtain ⟨a, e, q⟩ := s1.cel n d h
    exact ⟨a, e, Rp.mono (kp _) q⟩
  · obtain ⟨v, e, q⟩ := s1.slo i d h
    exact ⟨v, e, Rp.mono (kp _) q⟩
/-- a new shared thing of shared things -/
theorem PostE.newS {k : Kn} {xs : List D} {vs : List V} {o : HO} (h : PostE W w H σ Q E (.ok (.node false k xs) st)) (fr : Fr w H w1 R1 H1) (s : SRep W w1 H1 σ st) (hx : RpSL W w1.S xs vs) (hm : HOm W vs k o) :
    ∀ p, H1 p = none → Q (.ref p) (upd H1 p o) := fun p hp => by
  obtain ⟨f, s'⟩ := grow (o := o) fr s hp
  refine h _ noR _ (.ref p) f s' ?_
  simp only [Rp]
  have hS : SLe w1.S (upd w1.S p o) := fun a u q => by
    have nS : w1.S p = none := by
      cases e : w1.S p with
      | none => rfl
      | some t => exact absurd hp (s.sle p t e).ne
    rw [upd_ne (ne_of_none q nS)]; exact q
  exact ⟨p, vs, rfl, ⟨o, upd_same, hm⟩, hx.mono hS⟩
/-- a shared thing, told -/
theorem PostE.shd {d : D} {v : V} (h : PostE W w H σ Q E (.ok d st)) (fr : Fr w H w1 R1 H1) (s : SRep W w1 H1 σ st) (hv : RpS W w1.S d v) : Q v H1 := h.scal fr s hv
end
end VS
/-! VS5: operators and tests by data. -/
namespace VS
open PySem PySem.Spec L2
open PyProof.Rows hiding St
def opOf : Bop → Operator
  | .add => .Add | .sub => .Sub | .mul => .Mult | .fdiv => .FloorDiv | .mod => .Mod | .pow => .Pow | .shl => .LShift | .shr => .RShift | .and => .BitAnd | .or => .BitOr | .xor => .BitXor
def uoOf : Uop → UnaryOp
  | .neg => .USub | .inv => .Invert
section
variable {W : Wd} {w w1 : Wh} {H H1 : Hp} {R R1 : Own} {σ : L2.St} {st : Sg} {Q : VK} {E : L2.WX} {X : Cx}
theorem cps_len (l : List Nat) : (cps l).length = l.length := by simp [PySem.Str.length]
theorem cps_append (a b : List Nat) : cps a ++ cps b = cps (a ++ b) := by
  show (⟨(cps a).cps ++ (cps b).cps⟩ : Str) = _
  simp
theorem cps_inj {a b : List Nat} (h : cps a = cps b) : a = b := by
  have := congrArg (fun z : Str => z.cps.toList) h
  simpa using this
theorem LN_eq : LN = sizeLine := by rw [sizeLine_eq]
theorem RpSL.append {S : Hp} : ∀ {xs ys : List D} {vs us : List V}, RpSL W S xs vs → RpSL W S ys us → RpSL W S (xs ++ ys) (vs ++ us)
  | [], _, _, _, h, k => by simp only [RpSL] at h; subst h; exact k
  | x :: xs, ys, vs, us, h, k => by
    simp only [RpSL] at h
    obtain ⟨v, s, rfl, q, t⟩ := h
    simp only [List.cons_append, RpSL]
    exact ⟨v, s ++ us, rfl, q, RpSL.append t k⟩
/-- what an operator is to give, by data -/
def BinOk (W : Wd) (f : D → D → Option D) (r : R2) : Prop :=
  ∀ {w w1 : Wh} {H H1 : Hp} {R R1 : Own} {σ : L2.St} {st : Sg} {Q : VK} {E : L2.WX} {da db d : D} {x y : V}, f da db = some d → RpA W w1 R H1 da x → RpA W w1 R H1 db y → PostE W w H σ Q E (.ok d st) → Fr w H w1 R1 H1 → SRep W w1 H1 σ st → r x y H1 Q
theorem rpS_int {S : Hp} (i : Int) : RpS W S (.int i) (.int i) := by simp only [RpS]
theorem rpS_str {S : Hp} (i : List Nat) : RpS W S (.str i) (.str (cps i)) := by simp only [RpS]
theorem rpS_bl {S : Hp} (i : Bool) : RpS W S (.bl i) (.bl i) := by simp only [RpS]
theorem rpS_non {S : Hp} : RpS W S .non .non := by simp only [RpS]
theorem small_ok {i : Int} (h : small i) : i.natAbs < 2 ^ 64 := h
theorem mulOk_ok {i j : Int} (h : mulOk i j) : IntMulOk i j := by
  rcases h with h | h | h
  · have h' := small_ok h
    exact CMul.ok (.inl ⟨by omega, by omega⟩)
  · have h' := small_ok h
    exact CMul.ok (.inr ⟨by omega, by omega⟩)
  · exact CMulW.ok h
theorem op_mulV : OpR X (binaryOp .Mult) (rI mulOk fun i j => V.int (i * j)) := opI fun i j _ _ _ _ _ hc q => mul_int q (mulOk_ok hc)
theorem add_snd (hk : X.K = W.K) : ∃ r, OpR X (binaryOp .Add) r ∧ BinOk W (bopD .add) r := by
  refine ⟨_, op_add.or (op_add_str.or (op_cat.or (op_catA (X := X)))), ?_⟩
  intro w w1 H H1 R R1 σ st Q E da db d x y hf hx hy hp fr s
  match da, db, hf with
  | .int i, .int j, hf =>
    simp only [bopD, Option.some.injEq] at hf; subst hf
    exact .inl ⟨i, j, hx.int, hy.int, hp.scal fr s (rpS_int _)⟩
  | .str a, .str b, hf =>
    simp only [bopD] at hf
    split at hf
    · simp only [Option.some.injEq] at hf; subst hf
      refine .inr (.inl ⟨cps a, cps b, hx.str, hy.str, by rw [cps_len, cps_len, ← LN_eq]; assumption, ?_⟩)
      rw [cps_append]
      exact hp.scal fr s (rpS_str _)
    · cases hf
  | .node o1 .lst xs, .node o2 .lst ys, hf =>
    simp only [bopD] at hf
    split at hf
    · rename_i hc
      simp only [Option.some.injEq] at hf; subst hf
      obtain ⟨a, vs, rfl, ra, la⟩ := hx.node s.sle
      obtain ⟨b, us, rfl, rb, lb⟩ := hy.node s.sle
      simp only [Bool.and_eq_true] at hc
      refine .inr (.inr (.inl ⟨a, b, vs, us, rfl, rfl, ra.list', rb.list', by rw [← la.len, ← lb.len, ← LN_eq]; exact hc.2, ?_⟩))
      exact hp.new fr s ((la.sh hc.1.1).append (lb.sh hc.1.2)) rfl
    · cases hf
  | .node false .tup xs, .node false .tup ys, hf =>
    simp only [bopD] at hf
    split at hf
    · rename_i hc
      simp only [Option.some.injEq] at hf; subst hf
      obtain ⟨a, vs, rfl, ra, la⟩ := hx.node s.sle
      obtain ⟨b, us, rfl, rb, lb⟩ := hy.node s.sle
      simp only [Bool.and_eq_true] at hc
      have hs := (la.sh hc.1.1).append (lb.sh hc.1.2)
      have e1 : (D.node false .tup xs).sh = true := by simp [D.sh, hc.1.1]
      have e2 : (D.node false .tup ys).sh = true := by simp [D.sh, hc.1.2]
      refine .inr (.inr (.inr ⟨a, b, vs, us, rfl, rfl, ra.tup, rb.tup, by rw [← la.len, ← lb.len, ← LN_eq]; exact hc.2, fun e => ?_, fun _ e => ?_, fun _ _ => hp.newS fr s hs rfl⟩))
      · have : xs = [] := by have := la.len; rw [e] at this; simpa using this
        subst this
        exact hp.scal fr s (by simpa using hy.sh e2)
      · have : ys = [] := by have := lb.len; rw [e] at this; simpa using this
        subst this
        exact hp.scal fr s (by simpa using hx.sh e1)
    · cases hf
theorem int_snd {o : Bop} {p : Operator} {C : Int → Int → Prop} {g : Int → Int → Int} (ho : OpR X (binaryOp p) (rI C fun i j => .int (g i j)))
    (hf : ∀ da db d, bopD o da db = some d → ∃ i j, da = .int i ∧ db = .int j ∧ C i j ∧ d = .int (g i j)) : ∃ r, OpR X (binaryOp p) r ∧ BinOk W (bopD o) r := by
  refine ⟨_, ho, ?_⟩
  intro w w1 H H1 R R1 σ st Q E da db d x y h hx hy hp fr s
  obtain ⟨i, j, rfl, rfl, c, rfl⟩ := hf _ _ _ h
  exact ⟨i, j, hx.int, hy.int, c, hp.scal fr s (rpS_int _)⟩
theorem int_snd0 {o : Bop} {p : Operator} {g : Int → Int → Int} (ho : OpR X (binaryOp p) (rI0 fun i j => .int (g i j)))
    (hf : ∀ da db d, bopD o da db = some d → ∃ i j, da = .int i ∧ db = .int j ∧ d = .int (g i j)) : ∃ r, OpR X (binaryOp p) r ∧ BinOk W (bopD o) r := by
  refine ⟨_, ho, ?_⟩
  intro w w1 H H1 R R1 σ st Q E da db d x y h hx hy hp fr s
  obtain ⟨i, j, rfl, rfl, rfl⟩ := hf _ _ _ h
  exact ⟨i, j, hx.int, hy.int, hp.scal fr s (rpS_int _)⟩
theorem RpSL.rep {S : Hp} {xs : List D} {vs : List V} (h : RpSL W S xs vs) : ∀ n : Nat, RpSL W S (repL n xs) (List.replicate n vs).flatten
  | 0 => by simp [repL, RpSL]
  | n + 1 => by
    rw [List.replicate_succ, List.flatten_cons]
    exact h.append (RpSL.rep h n)
theorem mul_snd (hk : X.K = W.K) : ∃ r, OpR X (binaryOp .Mult) r ∧ BinOk W (bopD .mul) r := by
  refine ⟨_, op_mulV.or (op_rep.or op_repT), ?_⟩
  intro w w1 H H1 R R1 σ st Q E da db d x y hf hx hy hp fr s
  match da, db, hf with
  | .int i, .int j, hf =>
    simp only [bopD] at hf
    split at hf
    · rename_i c
      simp only [Option.some.injEq] at hf; subst hf
      exact .inl ⟨i, j, hx.int, hy.int, c, hp.scal fr s (rpS_int _)⟩
    · cases hf
  | .node o1 .lst xs, .int k, hf =>
    simp only [bopD] at hf
    split at hf
    · rename_i hc
      simp only [Option.some.injEq] at hf; subst hf
      obtain ⟨a, vs, rfl, ra, la⟩ := hx.node s.sle
      have hl := la.len
      have hz : vs.length * k.toNat ≤ sizeLine := by
        rw [sizeLine_eq]
        have a1 : vs.length * k.toNat ≤ 1000 * 1000 := Nat.mul_le_mul (by omega) (by omega)
        omega
      exact .inr (.inl ⟨a, k, vs, rfl, hy.int, ra.list', by omega, by omega, hz, hp.new fr s ((la.sh hc.1).rep k.toNat) rfl⟩)
    · cases hf
  | .node false .tup xs, .int k, hf =>
    simp only [bopD] at hf
    split at hf
    · rename_i hc
      simp only [Option.some.injEq] at hf; subst hf
      obtain ⟨a, vs, rfl, ra, la⟩ := hx.node s.sle
      have hl := la.len
      exact .inr (.inr ⟨a, k, vs, rfl, hy.int, ra.tup, fun e => hc.2.1 (by rw [e] at hl; simpa using hl), hc.2.2.1, hc.2.2.2.1, by omega, hp.newS fr s ((la.sh hc.1).rep k.toNat) rfl⟩)
    · cases hf
theorem bop_inv1 {o : Bop} {g : Int → Int → Int} {C : Int → Int → Prop} [∀ i j, Decidable (C i j)] (h : ∀ i j, bopD o (.int i) (.int j) = if C i j then some (.int (g i j)) else none)
    (hn : ∀ da db, (∀ i j, ¬ (da = .int i ∧ db = .int j)) → bopD o da db = none) : ∀ da db d, bopD o da db = some d → ∃ i j, da = .int i ∧ db = .int j ∧ C i j ∧ d = .int (g i j) := by
  intro da db d e
  by_cases q : ∃ i j, da = .int i ∧ db = .int j
  · obtain ⟨i, j, rfl, rfl⟩ := q
    rw [h] at e
    split at e
    · rename_i c
      exact ⟨i, j, rfl, rfl, c, (Option.some.inj e).symm⟩
    · cases e
  · rw [hn da db fun i j z => q ⟨i, j, z⟩] at e; cases e
theorem bop_snd (hk : X.K = W.K) (o : Bop) : ∃ r, OpR X (binaryOp (opOf o)) r ∧ BinOk W (bopD o) r := by
  cases o with
  | add => exact add_snd hk
  | sub => exact int_snd0 op_sub fun da db d h => by cases da <;> cases db <;> simp [bopD] at h; exact ⟨_, _, rfl, rfl, h.symm⟩
  | mul => exact mul_snd hk
  | fdiv => exact int_snd (C := CDivW) op_fdivW fun da db d h => by cases da <;> cases db <;> simp [bopD] at h; exact ⟨_, _, rfl, rfl, h.1, h.2.symm⟩
  | mod => exact int_snd (C := fun _ j => 0 < j) op_mod fun da db d h => by cases da <;> cases db <;> simp [bopD] at h; exact ⟨_, _, rfl, rfl, h.1, h.2.symm⟩
  | pow => exact int_snd (C := CPow) op_pow fun da db d h => by cases da <;> cases db <;> simp [bopD] at h; exact ⟨_, _, rfl, rfl, h.1, h.2.symm⟩
  | shl => exact int_snd (C := CPow) op_shl fun da db d h => by cases da <;> cases db <;> simp [bopD] at h; exact ⟨_, _, rfl, rfl, h.1, h.2.symm⟩
  | shr => exact int_snd (C := fun _ j => 0 ≤ j) op_shr fun da db d h => by cases da <;> cases db <;> simp [bopD] at h; exact ⟨_, _, rfl, rfl, h.1, h.2.symm⟩
  | and => exact int_snd0 op_and fun da db d h => by cases da <;> cases db <;> simp [bopD] at h; exact ⟨_, _, rfl, rfl, h.symm⟩
  | or => exact int_snd0 op_or fun da db d h => by cases da <;> cases db <;> simp [bopD] at h; exact ⟨_, _, rfl, rfl, h.symm⟩
  | xor => exact int_snd0 op_xor fun da db d h => by cases da <;> cases db <;> simp [bopD] at h; exact ⟨_, _, rfl, rfl, h.symm⟩
end
end VS
/-! VS6: a name is read; what the context must bear; chk: the core term is of the text. -/
namespace VS
open PySem PySem.Spec L2
open PyProof.Rows hiding St
/-- held by r -/
def byR (r : Ix) (o : Own) (x : Addr) : Bool := match o x with
  | some (q, _) => decide (q = r)
  | none => false
theorem byR_of {r : Ix} {o : Own} {x : Addr} {p : Ps} (h : o x = some (r, p)) : byR r o x = true := by unfold byR; rw [h]; simp
theorem byR_iff {r : Ix} {o : Own} {x : Addr} (h : byR r o x = true) : ∃ p, o x = some (r, p) := by
  unfold byR at h
  split at h
  · rename_i q p e
    exact ⟨p, by rw [e, of_decide_eq_true h]⟩
  · cases h
theorem byR_not {r q : Ix} {o : Own} {x : Addr} {p : Ps} (h : o x = some (q, p)) (n : q ≠ r) : byR r o x = false := by unfold byR; rw [h]; simp [n]
/-- without what r holds -/
def dropR (r : Ix) (o : Own) : Own := fun x => if byR r o x = true then none else o x
theorem dropR_ne {r : Ix} {o : Own} {x : Addr} (h : dropR r o x ≠ none) : o x ≠ none := by
  unfold dropR at h
  split at h
  · exact absurd rfl h
  · exact h
theorem dropR_some {r q : Ix} {o : Own} {x : Addr} {p : Ps} (h : o x = some (q, p)) (n : q ≠ r) : dropR r o x = some (q, p) := by
  unfold dropR; rw [byR_not h n]; simp [h]
theorem dropR_by {r : Ix} {o : Own} {x : Addr} (h : byR r o x = true) : dropR r o x = none := by unfold dropR; rw [if_pos h]
section
variable {W : Wd} {w w1 : Wh} {H H1 : Hp} {R R1 : Own} {σ : L2.St} {st : Sg} {Q : VK} {E : L2.WX} {X : Cx}
/-- what r holds is frozen -/
def frzW (r : Ix) (w : Wh) (H : Hp) : Wh := ⟨fun x => if byR r w.own x = true then H x else w.S x, dropR r w.own, w.io⟩
theorem frzW_S {r : Ix} (s : ∀ a t, w.own a = some t → w.S a = none ∧ Lv H a) : SLe w.S (frzW r w H).S := fun a u h => by
  show (if byR r w.own a = true then H a else w.S a) = some u
  split
  · rename_i c
    obtain ⟨p, e⟩ := byR_iff c
    rw [(s a _ e).1] at h; cases h
  · exact h
theorem frz_fr {r : Ix} (s : SRep W w H σ st) : Fr w H (frzW r w H) noR H where
  S := frzW_S s.sno
  io := fun _ _ h => h
  dom := fun x h => .inl (dropR_ne h)
  domR := fun _ h => absurd rfl h
  Sd := fun x h => by
    by_cases c : byR r w.own x = true
    · obtain ⟨p, e⟩ := byR_iff c
      exact .inr (.inl (by rw [e]; simp))
    · have h' : (if byR r w.own x = true then H x else w.S x) ≠ none := h
      rw [if_neg c] at h'
      exact .inl h'
  keep := fun _ _ _ h => h
  R := fun _ h => absurd rfl h
theorem frz_kp {r q : Ix} (n : q ≠ r) (s : SRep W w H σ st) : Kp w (frzW r w H) H H q q :=
  ⟨frzW_S s.sno, fun _ _ h => h, fun a p h => dropR_some h n, fun _ _ _ _ h => h⟩
theorem set_get {α : Type} {l : List α} {i j : Nat} {a b : α} (h : (l.set i a)[j]? = some b) : (i = j ∧ a = b) ∨ (i ≠ j ∧ l[j]? = some b) := by
  by_cases e : i = j
  · subst e
    left
    by_cases hl : i < l.length
    · rw [List.getElem?_set_self hl] at h; exact ⟨rfl, Option.some.inj h⟩
    · rw [List.getElem?_eq_none (by simpa using hl)] at h; cases h
  · rw [List.getElem?_set_ne e] at h
    exact .inr ⟨e, h⟩
theorem slot_some {sl : List (Option D)} {i : Nat} {d : D} (h : (sl[i]?).join = some d) : sl[i]? = some (some d) := by
  cases e : sl[i]? with
  | none => rw [e] at h; cases h
  | some o => rw [e] at h; cases o with
    | none => cases h
    | some d' => have : d' = d := by simpa using h
                 rw [this]
/-- a name's thing is frozen -/
theorem frz_slot {i : Nat} {d : D} (s : SRep W w H σ st) (h : st.sl[i]? = some (some d)) (nc : d.nc = true) :
    ∃ v, σ[i]? = some (some v) ∧ RpS W (frzW (.slot i) w H).S d.frz v ∧ SRep W (frzW (.slot i) w H) H σ { st with sl := st.sl.set i (some d.frz) } := by
  obtain ⟨v, e, q⟩ := s.slo i d h
  have fz : Fz w (frzW (.slot i) w H).S H (.slot i) := ⟨frzW_S s.sno, fun a p u h q => by
    show (if byR (.slot i) w.own a = true then H a else w.S a) = some u
    rw [if_pos (byR_of h)]; exact q⟩
  have hd := Rp.frz fz nc q
  refine ⟨v, e, hd, ⟨fun a u hu => ?_, fun a t ht => ?_, s.iol, fun n c hc => ?_, fun j c hc => ?_, by simpa using s.len⟩⟩
  · have hu' : (if byR (.slot i) w.own a = true then H a else w.S a) = some u := hu
    split at hu'
    · exact RdX.of hu'
    · exact s.sle a u hu'
  · have ht' := dropR_ne (x := a) (r := .slot i) (o := w.own) (by rw [show dropR (.slot i) w.own a = some t from ht]; simp)
    cases z : w.own a with
    | none => exact absurd z ht'
    | some t2 =>
      refine ⟨?_, (s.sno a t2 z).2⟩
      show (if byR (.slot i) w.own a = true then H a else w.S a) = none
      have nb : ¬ byR (.slot i) w.own a = true := fun c => by
        have : dropR (.slot i) w.own a = some t := ht
        rw [dropR_by c] at this; cases this
      rw [if_neg nb]
      exact (s.sno a t2 z).1
  · obtain ⟨a, e1, q1⟩ := s.cel n c hc
    exact ⟨a, e1, Rp.mono (frz_kp (by simp) s) q1⟩
  · rcases set_get hc with ⟨e1, e2⟩ | ⟨e1, e2⟩
    · subst e1
      cases e2
      exact ⟨v, e, Rp.of_sh hd⟩
    · obtain ⟨u, e3, q1⟩ := s.slo j c e2
      exact ⟨u, e3, Rp.mono (frz_kp (by simpa using fun z => e1 z.symm) s) q1⟩
/-- what is in a cell is frozen -/
theorem frz_cell {i n : Nat} {d : D} (s : SRep W w H σ st) (h : st.sl[i]? = some (some (.cell n))) (hm : st.m[n]? = some d) (nc : d.nc = true) :
    SRep W (frzW (.cell n) w H) H σ { sl := st.sl.set i (some d.frz), m := st.m.set n d.frz } := by
  obtain ⟨a, e, q⟩ := s.cel n d hm
  obtain ⟨v, e2, q2⟩ := s.slo i _ h
  simp only [Rp] at q2
  obtain ⟨a', e3, rfl⟩ := q2
  have : a' = a := by rw [e] at e3; exact (Option.some.inj e3).symm
  subst this
  have fz : Fz w (frzW (.cell n) w H).S H (.cell n) := ⟨frzW_S s.sno, fun a p u h q => by
    show (if byR (.cell n) w.own a = true then H a else w.S a) = some u
    rw [if_pos (byR_of h)]; exact q⟩
  have hd := Rp.frz fz nc q
  refine ⟨fun a u hu => ?_, fun a t ht => ?_, by show w.io.length = (st.m.set n d.frz).length; simpa using s.iol, fun j c hc => ?_, fun j c hc => ?_, by simpa using s.len⟩
  · have hu' : (if byR (.cell n) w.own a = true then H a else w.S a) = some u := hu
    split at hu'
    · exact RdX.of hu'
    · exact s.sle a u hu'
  · have ht' := dropR_ne (x := a) (r := .cell n) (o := w.own) (by rw [show dropR (.cell n) w.own a = some t from ht]; simp)
    cases z : w.own a with
    | none => exact absurd z ht'
    | some t2 =>
      refine ⟨?_, (s.sno a t2 z).2⟩
      show (if byR (.cell n) w.own a = true then H a else w.S a) = none
      have nb : ¬ byR (.cell n) w.own a = true := fun c => by
        have : dropR (.cell n) w.own a = some t := ht
        rw [dropR_by c] at this; cases this
      rw [if_neg nb]
      exact (s.sno a t2 z).1
  · have hc' : (st.m.set n d.frz)[j]? = some c := hc
    by_cases ej : n = j
    · subst ej
      have hl : n < st.m.length := (List.getElem?_eq_some_iff.mp hm).1
      rw [List.getElem?_set_self hl] at hc'
      cases hc'
      exact ⟨a', e, Rp.of_sh hd⟩
    · rw [List.getElem?_set_ne ej] at hc'
      obtain ⟨b, e1, q1⟩ := s.cel j c hc'
      exact ⟨b, e1, Rp.mono (frz_kp (by simpa using fun z => ej z.symm) s) q1⟩
  · rcases set_get hc with ⟨e1, e4⟩ | ⟨e1, e4⟩
    · subst e1
      cases e4
      exact ⟨_, e2, Rp.of_sh hd⟩
    · obtain ⟨u, e5, q1⟩ := s.slo j c e4
      exact ⟨u, e5, Rp.mono (frz_kp (by simp) s) q1⟩
/-- a name's thing comes into a cell -/
theorem att_slot {i : Nat} {k : Kn} {xs : List D} (s : SRep W w H σ st) (h : st.sl[i]? = some (some (.node true k xs))) :
    ∃ a, σ[i]? = some (some (.ref a)) ∧ Fr w H ⟨w.S, ren (fun r => if r = .slot i then .cell st.m.length else r) w.own, w.io ++ [a]⟩ noR H ∧
      SRep W ⟨w.S, ren (fun r => if r = .slot i then .cell st.m.length else r) w.own, w.io ++ [a]⟩ H σ { sl := st.sl.set i (some (.cell st.m.length)), m := st.m ++ [.node true k xs] } := by
  obtain ⟨v, e, q⟩ := s.slo i _ h
  have q0 := q
  simp only [Rp] at q
  obtain ⟨a, vs, ho, rfl, _⟩ := q
  have io : ∀ (n : Nat) (b : Addr), w.io[n]? = some b → (w.io ++ [a])[n]? = some b := fun n b hb => by
    have hn : n < w.io.length := (List.getElem?_eq_some_iff.mp hb).1
    rw [List.getElem?_append_left hn]; exact hb
  have last : (w.io ++ [a])[st.m.length]? = some a := by rw [← s.iol]; simp
  have kp : ∀ r, Kp w ⟨w.S, ren (fun r => if r = .slot i then .cell st.m.length else r) w.own, w.io ++ [a]⟩ H H r (if r = .slot i then .cell st.m.length else r) := fun r =>
    ⟨SLe.refl _, io, fun b p hb => ren_some (f := fun r => if r = .slot i then .cell st.m.length else r) hb, fun _ _ _ _ hb => hb⟩
  refine ⟨a, e, ⟨SLe.refl _, io, fun x hx => .inl ((ren_ne (f := fun r => if r = .slot i then .cell st.m.length else r)).mp hx), fun _ hx => absurd rfl hx, fun x hx => .inl hx, fun _ _ _ hx => hx, fun _ hx => absurd rfl hx⟩, ⟨s.sle, fun b t hb => ?_, by simp [s.iol], fun n c hc => ?_, fun j c hc => ?_, by simpa using s.len⟩⟩
  · cases z : w.own b with
    | none => have hb' : ren (fun r => if r = .slot i then .cell st.m.length else r) w.own b = some t := hb
              unfold ren at hb'; rw [z] at hb'; cases hb'
    | some t2 => exact s.sno b t2 z
  · have hc' : (st.m ++ [D.node true k xs])[n]? = some c := hc
    by_cases hn : n < st.m.length
    · rw [List.getElem?_append_left hn] at hc'
      obtain ⟨b, e1, q1⟩ := s.cel n c hc'
      refine ⟨b, io n b e1, ?_⟩
      have := Rp.mono (kp (.cell n)) q1
      rwa [if_neg (by simp)] at this
    · have hn2 : n = st.m.length := by
        have := (List.getElem?_eq_some_iff.mp hc').1
        simp at this; omega
      subst hn2
      simp at hc'
      subst hc'
      refine ⟨a, last, ?_⟩
      have := Rp.mono (kp (.slot i)) q0
      rwa [if_pos rfl] at this
  · rcases set_get hc with ⟨e1, e2⟩ | ⟨e1, e2⟩
    · subst e1
      cases e2
      exact ⟨.ref a, e, by simp only [Rp]; exact ⟨a, last, rfl⟩⟩
    · obtain ⟨u, e3, q1⟩ := s.slo j c e2
      refine ⟨u, e3, ?_⟩
      have := Rp.mono (kp (.slot j)) q1
      rwa [if_neg (by simpa using fun z => e1 z.symm)] at this
/-- a name's thing is moved out -/
def takR (i : Nat) (o : Own) : Own := fun x => match o x with
  | some (q, p) => if q = .slot i then some (.temp 0, p) else none
  | none => none
theorem takR_some {i : Nat} {o : Own} {x : Addr} {p : Ps} (h : o x = some (.slot i, p)) : takR i o x = some (.temp 0, p) := by unfold takR; rw [h]; simp
theorem takR_ne {i : Nat} {o : Own} {x : Addr} (h : takR i o x ≠ none) : byR (.slot i) o x = true := by
  unfold takR at h
  split at h
  · rename_i q p e
    split at h
    · rename_i c; subst c; exact byR_of e
    · exact absurd rfl h
  · exact absurd rfl h
theorem mov_slot {i : Nat} {d : D} (s : SRep W w H σ st) (h : st.sl[i]? = some (some d)) :
    ∃ v, σ[i]? = some (some v) ∧ Fr w H ⟨w.S, dropR (.slot i) w.own, w.io⟩ (takR i w.own) H ∧ Rp W (w.wth (takR i w.own)) H (.temp 0) d none v ∧
      SRep W ⟨w.S, dropR (.slot i) w.own, w.io⟩ H σ { st with sl := st.sl.set i none } := by
  obtain ⟨v, e, q⟩ := s.slo i d h
  have kp : ∀ r, r ≠ .slot i → Kp w ⟨w.S, dropR (.slot i) w.own, w.io⟩ H H r r := fun r n => ⟨SLe.refl _, fun _ _ hb => hb, fun b p hb => dropR_some hb n, fun _ _ _ _ hb => hb⟩
  have live : ∀ x, byR (.slot i) w.own x = true → w.own x ≠ none ∧ w.S x = none ∧ Lv H x := fun x c => by
    obtain ⟨p, z⟩ := byR_iff c
    exact ⟨by rw [z]; simp, (s.sno x _ z).1, (s.sno x _ z).2⟩
  refine ⟨v, e, ⟨SLe.refl _, fun _ _ hb => hb, fun x hx => .inl (dropR_ne hx), fun x hx => .inl (live x (takR_ne hx)).1, fun x hx => .inl hx, fun _ _ _ hx => hx, fun x hx => ⟨dropR_by (takR_ne hx), (live x (takR_ne hx)).2.1, (live x (takR_ne hx)).2.2⟩⟩, ?_, ⟨s.sle, fun b t hb => ?_, s.iol, fun n c hc => ?_, fun j c hc => ?_, by simpa using s.len⟩⟩
  · exact Rp.mono (w := w) (w' := w.wth (takR i w.own)) ⟨SLe.refl _, fun _ _ hb => hb, fun b p hb => takR_some hb, fun _ _ _ _ hb => hb⟩ q
  · have hb' := dropR_ne (x := b) (r := .slot i) (o := w.own) (by rw [show dropR (.slot i) w.own b = some t from hb]; simp)
    cases z : w.own b with
    | none => exact absurd z hb'
    | some t2 => exact s.sno b t2 z
  · obtain ⟨a, e1, q1⟩ := s.cel n c hc
    exact ⟨a, e1, Rp.mono (kp _ (by simp)) q1⟩
  · rcases set_get hc with ⟨e1, e2⟩ | ⟨e1, e2⟩
    · cases e2
    · obtain ⟨u, e3, q1⟩ := s.slo j c e2
      exact ⟨u, e3, Rp.mono (kp _ (by simpa using fun z => e1 z.symm)) q1⟩
/-- a name, read as rdN tells -/
theorem rdN_snd {i : Nat} {m : Md} (s : SRep W w H σ st) (h : PostE W w H σ Q E (rdN i m st)) : ∃ v, σ[i]? = some (some v) ∧ Q v H := by
  unfold rdN at h
  cases e : (st.sl[i]?).join with
  | none => rw [e] at h; exact h.elim
  | some d =>
    have hs := slot_some e
    simp only [e] at h
    by_cases al : d.al = true
    · rw [if_pos al] at h
      obtain ⟨v, e1, q⟩ := s.slo i d hs
      exact ⟨v, e1, h w noR H v (Fr.refl w H) s (Rp.alw (w := w) (w' := w.wth noR) (fun h => h) (fun _ _ h => h) al q)⟩
    · rw [if_neg al] at h
      cases m with
      | frz =>
        by_cases nc : d.nc = true
        · simp only [nc, if_true] at h
          obtain ⟨v, e1, q1, s1⟩ := frz_slot s hs nc
          exact ⟨v, e1, h _ noR H v (frz_fr s) s1 (Rp.of_sh q1)⟩
        · simp only [nc] at h; exact h.elim
      | att =>
        by_cases nc : d.nc = true
        · simp only [nc, if_true] at h
          cases d with
          | node o k xs =>
            cases o with
            | false => exact absurd rfl al
            | true =>
              obtain ⟨a, e1, f1, s1⟩ := att_slot s hs
              refine ⟨.ref a, e1, h _ noR H (.ref a) f1 s1 ?_⟩
              simp only [Rp]
              exact ⟨a, by show (w.io ++ [a])[st.m.length]? = some a; rw [← s.iol]; simp, rfl⟩
          | _ => exact absurd rfl al
        · simp only [nc] at h; exact h.elim
      | mov =>
        obtain ⟨v, e1, f1, q1, s1⟩ := mov_slot s hs
        exact ⟨v, e1, h _ _ H v f1 s1 q1⟩
      | lnd => exact h.elim
end
end VS
/-! VS7: chk (the core term is of the text), the context, the first constructs. -/
namespace VS
open PySem PySem.Spec L2
open PyProof.Rows hiding St
/-! ### views of the text -/
def vConst : Expr → Option Const
  | .Constant c _ _ => some c
  | _ => none
def vName : Expr → Option Str
  | .Name x _ => some x
  | _ => none
def vBin : Expr → Option (Expr × Operator × Expr)
  | .BinOp a o b _ => some (a, o, b)
  | _ => none
def vUn : Expr → Option (UnaryOp × Expr)
  | .UnaryOp o a _ => some (o, a)
  | _ => none
def vCmp : Expr → Option (Expr × List CmpOp × List Expr)
  | .Compare a os bs _ => some (a, os, bs)
  | _ => none
def vBool : Expr → Option (BoolOp × List Expr × Pos)
  | .BoolOp o es p => some (o, es, p)
  | _ => none
def vIf : Expr → Option (Expr × Expr × Expr)
  | .IfExp c a b _ => some (c, a, b)
  | _ => none
def vTup : Expr → Option (List Expr)
  | .Tuple es _ _ => some es
  | _ => none
def vLst : Expr → Option (List Expr)
  | .List es _ => some es
  | _ => none
def vSub : Expr → Option (Expr × Expr)
  | .Subscript a i _ => some (a, i)
  | _ => none
def vAttr : Expr → Option (Expr × Str)
  | .Attribute a f _ => some (a, f)
  | _ => none
/-- a call by a name, without keywords -/
def vCall : Expr → Option (Str × List Expr)
  | .Call (.Name x _) es [] _ => some (x, es)
  | _ => none
/-- a call of an attribute -/
def vMeth : Expr → Option (Expr × Str × List Expr × Bool)
  | .Call (.Attribute o m ap) es [] p => some (o, m, es, ap.endLine == p.line)
  | _ => none
def vComp : Expr → Option (Expr × Expr × Expr × List Expr × Scope)
  | .ListComp elt [⟨tg, it, ifs, 0⟩] sc _ => some (elt, tg, it, ifs, sc)
  | _ => none
theorem vConst_eq {e : Expr} {c : Const} (h : vConst e = some c) : ∃ k p, e = .Constant c k p := by cases e <;> simp [vConst] at h; subst h; exact ⟨_, _, rfl⟩
theorem vName_eq {e : Expr} {c : Str} (h : vName e = some c) : ∃ p, e = .Name c p := by cases e <;> simp [vName] at h; subst h; exact ⟨_, rfl⟩
theorem vBin_eq {e a b : Expr} {o : Operator} (h : vBin e = some (a, o, b)) : ∃ p, e = .BinOp a o b p := by cases e <;> simp [vBin] at h; obtain ⟨rfl, rfl, rfl⟩ := h; exact ⟨_, rfl⟩
theorem vUn_eq {e a : Expr} {o : UnaryOp} (h : vUn e = some (o, a)) : ∃ p, e = .UnaryOp o a p := by cases e <;> simp [vUn] at h; obtain ⟨rfl, rfl⟩ := h; exact ⟨_, rfl⟩
theorem vCmp_eq {e a : Expr} {os : List CmpOp} {bs : List Expr} (h : vCmp e = some (a, os, bs)) : ∃ p, e = .Compare a os bs p := by cases e <;> simp [vCmp] at h; obtain ⟨rfl, rfl, rfl⟩ := h; exact ⟨_, rfl⟩
theorem vBool_eq {e : Expr} {o : BoolOp} {es : List Expr} {p : Pos} (h : vBool e = some (o, es, p)) : e = .BoolOp o es p := by cases e <;> simp [vBool] at h; obtain ⟨rfl, rfl, rfl⟩ := h; rfl
theorem vIf_eq {e c a b : Expr} (h : vIf e = some (c, a, b)) : ∃ p, e = .IfExp c a b p := by cases e <;> simp [vIf] at h; obtain ⟨rfl, rfl, rfl⟩ := h; exact ⟨_, rfl⟩
theorem vTup_eq {e : Expr} {es : List Expr} (h : vTup e = some es) : ∃ k p, e = .Tuple es k p := by cases e <;> simp [vTup] at h; subst h; exact ⟨_, _, rfl⟩
theorem vLst_eq {e : Expr} {es : List Expr} (h : vLst e = some es) : ∃ p, e = .List es p := by cases e <;> simp [vLst] at h; subst h; exact ⟨_, rfl⟩
theorem vSub_eq {e a i : Expr} (h : vSub e = some (a, i)) : ∃ p, e = .Subscript a i p := by cases e <;> simp [vSub] at h; obtain ⟨rfl, rfl⟩ := h; exact ⟨_, rfl⟩
theorem vAttr_eq {e a : Expr} {f : Str} (h : vAttr e = some (a, f)) : ∃ p, e = .Attribute a f p := by cases e <;> simp [vAttr] at h; obtain ⟨rfl, rfl⟩ := h; exact ⟨_, rfl⟩
theorem vCall_eq {e : Expr} {x : Str} {es : List Expr} (h : vCall e = some (x, es)) : ∃ p q, e = .Call (.Name x p) es [] q := by
  unfold vCall at h
  split at h
  · simp only [Option.some.injEq, Prod.mk.injEq] at h; obtain ⟨rfl, rfl⟩ := h; exact ⟨_, _, rfl⟩
  · cases h
theorem vMeth_eq {e o : Expr} {m : Str} {es : List Expr} {k : Bool} (h : vMeth e = some (o, m, es, k)) : ∃ ap p, e = .Call (.Attribute o m ap) es [] p ∧ k = (ap.endLine == p.line) := by
  unfold vMeth at h
  split at h
  · simp only [Option.some.injEq, Prod.mk.injEq] at h; obtain ⟨rfl, rfl, rfl, rfl⟩ := h; exact ⟨_, _, rfl, rfl⟩
  · cases h
theorem vComp_eq {e elt tg it : Expr} {ifs : List Expr} {sc : Scope} (h : vComp e = some (elt, tg, it, ifs, sc)) : ∃ p, e = .ListComp elt [⟨tg, it, ifs, 0⟩] sc p := by
  unfold vComp at h
  split at h
  · simp only [Option.some.injEq, Prod.mk.injEq] at h; obtain ⟨rfl, rfl, rfl, rfl, rfl⟩ := h; exact ⟨_, rfl⟩
  · cases h
/-! ### what the check looks at -/
structure Ck where
  fs : List String
  cs : List String
  fl : List String
  sc : Scope
  N : List Str
  cel : Bool
  gl : List String
  ms : List String
  sm : List (String × String)
  xs : List String
  ts : List String
  calm : Bool
  tr : Bool
  xa : List String
  hs : List String
/-- within an except suite -/
def Ck.suite (c : Ck) : Ck := { c with fs := c.hs, cs := [], ms := [], sm := [], xs := [], calm := false, tr := false, hs := [] }
def visB (sc : Scope) (x : Str) : Bool := decide (sc.names.lookup x = some .local) || decide (sc.names.lookup x = some .cell) || decide (sc.names.lookup x = some .free)
def locB (c : Ck) (x : Str) : Bool := decide (c.sc.names.lookup x = some .local) || (c.cel && decide (c.sc.names.lookup x = some .cell))
/-- the names of a block as they stand in it -/
def relS (scope sc : Scope) : Scope := { scope with names := scope.names.map fun (n, k) => if (k == .free && sc.kind == .function && sc.names.lookup n == some .cell) then (n, .cell) else (n, k) }
theorem relS_eq {scope : Scope} {env : Env} : PySem.relabel scope env = relS scope env.scope := rfl
def glB (sc : Scope) (x : Str) : Bool := decide (sc.names.lookup x = some .globalImplicit)
def dbB (x : Str) : Bool := x == ("__debug__" : Str) || x == ("__classdict__" : Str) || x == ("__name__" : Str)
def chkC : Const → D → Bool
  | .int i, .int j => decide (i = j)
  | .str s, .str l => decide (s = cps l)
  | .bool b, .bl c => b == c
  | .none, .non => true
  | _, _ => false
def cmOf : Cop → CmpOp
  | .eq => .Eq | .ne => .NotEq | .lt => .Lt | .le => .LtE | .gt => .Gt | .ge => .GtE | .isN => .Is | .notN => .IsNot | .in_ => .In | .notIn => .NotIn
/-- no star -/
def noStar : Expr → Bool
  | .Starred _ _ => false
  | _ => true
def isSet : Expr → Bool
  | .Set _ _ _ => true
  | _ => false
theorem starEach_cons {e : Expr} {es : List Expr} {env : Env} (h : noStar e = true) : starEach (e :: es) env = (false, eval e env) :: starEach es env := by
  cases e <;> first | rfl | (simp [noStar] at h)
theorem notIn_set {b : Expr} {op : CmpOp} (h : isSet b = false) : behindInMarks op b = false := by
  cases b <;> first | rfl | (simp [isSet] at h)
theorem plain_star {pos : Pos} : ∀ {es : List Expr} {env : Env}, es.all noStar = true → (backTo pos (starEach es env)).any (·.1) = false
  | [], _, _ => rfl
  | e :: es, env, h => by
    simp only [List.all_cons, Bool.and_eq_true] at h
    rw [starEach_cons h.1]
    have ih := plain_star (pos := pos) (env := env) h.2
    simp only [backTo, List.map_cons, List.any_cons] at ih ⊢
    simpa using ih
end VS
/-! VS8: the context, readings by data, the first constructs. -/
namespace VS
open PySem PySem.Spec L2
open PyProof.Rows hiding St
/-- nothing may be let out -/
abbrev E0 : L2.WX := fun _ _ _ _ => False
/-- a function's call, by values, where a body runs -/
def CallS (X : Cx) (f : Value) (r : List V → L2.St → Hp → VK → Prop) : Prop :=
  ∀ (pins : List (Addr × Obj)) (s : Shared) (σ : L2.St) (H : Hp) (vs : List V) (us : List Value) (Q : VK), Inv X pins σ H s → Vals vs us → r vs σ H Q → wpAny (model X.prog X.w) X.A (call f us) (EP X pins σ Q) X.xe s
/-- how a call of a function of the core language is told -/
def rCal (W : Wd) (E : L2.WX) (g : List D → Mem → Rr) : List V → L2.St → Hp → VK → Prop := fun vs σ H1 Q =>
  ∃ w H w1 R ds st, Fr w H w1 R H1 ∧ SRep W w1 H1 σ st ∧ RpT W (w1.wth R) H1 0 ds vs ∧ PostE W w H σ Q E ((g ds st.m).rs st)
def tyNs : List String := ["int", "bool", "str", "list", "tuple", "dict", "ValueError"]
def btNs : List String := ["NoneType", "bool", "int", "str", "list", "tuple", "dict"]
/-- the classes that are asked for -/
def Wd.ts (W : Wd) : List String := W.cs ++ W.xs
/-- isinstance of own classes -/
structure IsiOk (W : Wd) (sub : String → String → Bool) (K : PySem.W.Frag) : Prop where
  ha : ∀ k ∈ W.cs, PySem.W.findIn K (.ref (W.cls k)) "__class__" = some (some (.builtin "object.__class__"))
  hn : ∀ k ∈ W.cs, PySem.W.specialIn K (.builtin "object.__class__") "__get__" = some (some (.builtin "getset_descriptor.__get__"))
  ht : ∀ k ∈ W.cs, PySem.W.takesIn K (.builtin "object.__class__") = some true
  hm : ∀ k ∈ W.cs, PySem.W.mroIn K (W.cls k) (.type "object") = some true
  ot : ∀ k ∈ W.cs, ∀ b ∈ tyNs, PySem.W.kitOne K (.ref (W.cls k)) (.type b) = some false
  oo : ∀ k ∈ W.cs, ∀ e ∈ W.ts, PySem.W.kitOne K (.ref (W.cls k)) (.ref (W.cls e)) = some (sub k e)
  to : ∀ a ∈ btNs, ∀ e ∈ W.ts, PySem.W.kitOne K (.type a) (.ref (W.cls e)) = some false
  exC : ∀ k ∈ W.xs, ExcC K (W.cls k)
  eo : ∀ k ∈ W.xs, ∀ e ∈ W.ts, PySem.W.kitOne K (.ref (W.cls k)) (.ref (W.cls e)) = some (sub k e)
  exm : ∀ k ∈ W.xs, ∀ e ∈ W.xs, PySem.W.exmOne K (.ref (W.cls k)) (.ref (W.cls e)) = some (sub k e)
  xf : ∀ k ∈ W.xs, XfC K (W.cls k)
  xv : ∀ k ∈ W.xs, PySem.W.kitOne K (.ref (W.cls k)) (.type "ValueError") = some true
/-- another body of the same program -/
structure Kin (X X' : Cx) : Prop where
  prog : X'.prog = X.prog
  w : X'.w = X.w
  K : X'.K = X.K
  mg : X'.mg = X.mg
  base : X'.base = X.base
  A : X'.A = X.A
theorem Kin.refl (X : Cx) : Kin X X := ⟨rfl, rfl, rfl, rfl, rfl, rfl⟩
theorem Kin.trans {X Y Z : Cx} (a : Kin X Y) (b : Kin Y Z) : Kin X Z := ⟨b.prog.trans a.prog, b.w.trans a.w, b.K.trans a.K, b.mg.trans a.mg, b.base.trans a.base, b.A.trans a.A⟩
/-- another body of the same program, with as much room; something may be handled there -/
structure KinA (X X' : Cx) : Prop where
  prog : X'.prog = X.prog
  w : X'.w = X.w
  K : X'.K = X.K
  mg : X'.mg = X.mg
  base : X'.base = X.base
  dp : X'.A.depth = X.A.depth
  un : X'.A.units = X.A.units
  gd : X'.A.guards = X.A.guards
/-- what a refusal's __init__ does: it lays its field -/
def spX (C : Addr) (f : Str) : Sp := fun vs H Q _ => ∃ a v, vs = [.ref a, v] ∧ H a = some (exo a C none) ∧ ∀ dx, H dx = none → dx ≠ a → Q .non (upd (upd H dx (exd dx [(f, v)])) a (exo a C (some dx)))
structure Gd (W : Wd) (F : Cl) (c : Ck) (X : Cx) (E : L2.WX) : Prop where
  K : X.K = W.K
  sc : X.env.scope = c.sc
  N : X.N = c.N
  nd : c.N.Nodup
  calm : c.calm = true → X.calm = true
  tk : Takes X E
  po : PassesOwn (model X.prog X.w) X.A X.env X.xe
  un : X.A.units + 200 < cLine
  grd : X.A.guards = some []
  fn : c.cel = true → ∀ x, c.sc.names.lookup x = some .cell → X.fn x = true
  gl : ∀ y ∈ c.gl, (F.con y).isSome = true
  con : ∀ g d, F.con g = some d → ∃ u v, X.mg (sn g) = some u ∧ RelV v u ∧ ∀ S, RpS W S d v
  blt : ∀ x ∈ (["len", "range", "isinstance", "all", "any", "int", "str", "list", "tuple", "dict", "min", "max", "sum", "sorted", "enumerate", "zip", "reversed", "repr", "bool", "set", "ValueError"] : List Str), X.mg x = none
  cls : ∀ k ∈ W.cs, Cls X.K (W.cls k)
  na : ∀ k ∈ W.cs, ∀ f ∈ c.fl, NoAttr X.K (W.cls k) (sn f)
  cse : ∀ e ∈ c.cs, e ∈ W.cs
  tse : ∀ e ∈ c.ts, e ∈ W.ts
  tsg : ∀ e ∈ c.ts, X.mg (sn e) = some (.ref (W.cls e))
  nax : ∀ k ∈ W.xs, ∀ f ∈ c.fl, PySem.W.findIn X.K (.ref (W.cls k)) (sn f) = some none
  xae : ∀ e ∈ c.xa, e ∈ W.xs ∧ X.mg (sn e) = some (.ref (W.cls e))
  stk : c.tr = true → X.stack = X.env :: X.outer ∧ X.env.frame = some X.env.locals ∧ X.ex = []
  clg : ∀ e ∈ c.cs, X.mg (sn e) = some (.ref (W.cls e))
  isi : IsiOk W F.sub X.K
  cal : ∀ f ∈ c.fs, ∃ fa, X.mg (sn f) = some (.ref fa) ∧ PySem.W.keepIn X.K (.ref fa) = true ∧ ∀ X' E', Kin X X' → Takes X' E' → CallS X' (.ref fa) (rCal W E' (F.fn false f))
  hot : ∀ f ∈ c.hs, ∃ fa, X.mg (sn f) = some (.ref fa) ∧ PySem.W.keepIn X.K (.ref fa) = true ∧ ∀ X' E', KinA X X' → Takes X' E' → CallS X' (.ref fa) (rCal W E' (F.fn false f))
  met : ∀ k ∈ W.cs, ∀ m ∈ c.ms, ∀ f, F.meth k m = some f → ∃ fa, Meth X.K (W.cls k) (sn m) fa ∧ ∀ X' E', Kin X X' → Takes X' E' → CallS X' (.ref fa) (rCal W E' (F.fn false f))
  scm : ∀ q ∈ c.sm, ∀ f, F.meth q.1 q.2 = some f → ∃ C mc fa, X.mg (sn q.1) = some (.ref C) ∧ ClX.CRead X.K C mc ∧ PySem.W.findCls X.K (.ref C) mc (sn q.2) = some (.val (.ref fa)) ∧ PySem.W.keepIn X.K (.ref fa) = true ∧ ∀ X' E', Kin X X' → Takes X' E' → CallS X' (.ref fa) (rCal W E' (F.fn false f))
  mak : ∀ k ∈ c.cs, PySem.W.keepIn X.K (.ref (W.cls k)) = true ∧ ∀ X' E', Kin X X' → Takes X' E' → CallS X' (.ref (W.cls k)) (rCal W E' (mkR F k))
  rai : ∀ k ∈ c.xs, k ∈ W.xs ∧ ∃ f, F.exc k = some [f] ∧ ∀ (Y : Cx), Kin X Y → Y.A = X.A → ∀ (e : Expr) (ta : TA) (p1 p : Pos), noStar e = true → Gl Y (sn k) → dbB (sn k) = false → PA Y [e] ta → PMk Y (.Call (.Name (sn k) p1) [e] [] p) (tMkO (W.cls k) (spX (W.cls k) (sn f)) [] ta)
section
variable {W : Wd} {F : Cl} {c : Ck} {X : Cx} {E : L2.WX} {w w1 : Wh} {H H1 : Hp} {R R1 : Own} {σ : L2.St} {st : Sg} {Q : VK}
theorem peW {e : Expr} {t t' : TE} (h : PE X e t) (k : ∀ σ H Q, t' σ H Q → t σ H Q) : PE X e t' := ⟨fun pins s σ H Q I q => h.run pins s σ H Q I (k σ H Q q)⟩
theorem ptW {e : Expr} {t t' : TT} (h : PT X e t) (k : ∀ σ H Q, t' σ H Q → t σ H Q) : PT X e t' := ⟨fun pins s σ H Q I q => h.run pins s σ H Q I (k σ H Q q)⟩
theorem paW {e : List Expr} {t t' : TA} (h : PA X e t) (k : ∀ σ H Q, t' σ H Q → t σ H Q) : PA X e t' := ⟨fun pos pins s σ H Q I q => h.run pos pins s σ H Q I (k σ H Q q)⟩
def semE (W : Wd) (F : Cl) (E : L2.WX) (c : CE) : TE := fun σ H Q => ∃ w st, SRep W w H σ st ∧ PostE W w H σ Q E (ev F c st)
def semT (W : Wd) (F : Cl) (E : L2.WX) (c : CE) : TT := fun σ H Q => ∃ w st, SRep W w H σ st ∧ PostT W w H σ Q E (tst F c st)
def semP (W : Wd) (F : Cl) (c : CE) : TE := fun σ H Q => ∃ w st d, SRep W w H σ st ∧ pk F c st = some d ∧ ∀ v, RpA W w noR H d v → Q v H
def semV (W : Wd) (F : Cl) (E : L2.WX) (es : CEs) : TA := fun σ H Q => ∃ w st, SRep W w H σ st ∧ PostL W w H σ 0 Q E (evv F es st)
/-- all that is shown of an expression -/
structure Snd (W : Wd) (F : Cl) (c : CE) (E : L2.WX) (X : Cx) (e : Expr) : Prop where
  v : PE X e (semE W F E c)
  t : PT X e (semT W F E c)
  p : c.isPk = true → PE X e (semP W F c)
  n : ∀ i m, c = .nm i m → PE X e (tVar i)
  ns : noStar e = true
/-- its test is its value's truth -/
def plainT : Expr → Bool
  | .UnaryOp .Not _ _ => false
  | .BoolOp _ _ _ => false
  | .IfExp _ _ _ _ => false
  | .Compare _ _ _ _ => false
  | _ => true
theorem plainT_eq {e : Expr} {env : Env} (h : plainT e = true) (whole : Sem Value) : isTrue e env whole = (do let v ← whole; standAt e.pos; holding [v] (truthy v)) := by
  cases e with
  | UnaryOp o a p => cases o <;> first | rfl | (simp [plainT] at h)
  | BoolOp => simp [plainT] at h
  | IfExp => simp [plainT] at h
  | Compare => simp [plainT] at h
  | _ => rfl
/-- the truth of a thing, by data -/
theorem tru_rep {d : D} {x : V} {k : Bool} (s : SRep W w H σ st) (e : trD d = some k) (h : RpA W w R H d x) (hK : X.K = W.K) : TruV X.K x H k := by
  cases d with
  | non => rw [h.non]; simp only [trD, Option.some.injEq] at e; exact e.symm
  | bl b => rw [h.bl]; simp only [trD, Option.some.injEq] at e; exact e.symm
  | int i => rw [h.int]; simp only [trD, Option.some.injEq] at e; exact e.symm
  | str l =>
    rw [h.str]
    simp only [trD] at e
    split at e
    · rename_i hl
      simp only [Option.some.injEq] at e
      refine ⟨by rw [cps_len, ← LN_eq]; exact hl, ?_⟩
      rw [cps_len, ← e]
      cases l with
      | nil => rfl
      | cons a l =>
        simp only [List.isEmpty_cons, Bool.not_false, List.length_cons]
        symm; rw [bne_iff_ne]; omega
    · cases e
  | node o kn xs =>
    obtain ⟨a, vs, rfl, ra, la⟩ := h.node s.sle
    have hl := la.len
    have em : (!xs.isEmpty) = (!vs.isEmpty) := by
      cases xs <;> cases vs <;> simp at hl ⊢
    cases kn with
    | tup => simp only [trD, Option.some.injEq] at e; exact .inr (.inl ⟨vs, ra.tup, by rw [← em, e]⟩)
    | lst => simp only [trD, Option.some.injEq] at e; exact .inl ⟨vs, ra.list, by rw [← em, e]⟩
    | slst => simp [trD] at e
    | dK ks => simp [trD] at e
    | dT ks => simp [trD] at e
    | obj q ns => simp [trD] at e
    | exc q => simp [trD] at e
    | xd ns => simp [trD] at e
  | cell n => simp [trD] at e
/-- an expression whose truth is its value's -/
theorem PT.of_v {e : Expr} {ce : CE} (g : Gd W F c X E) (hv : PE X e (semE W F E ce)) (hp : plainT e = true) (ht : ∀ st, tst F ce st = (ev F ce st).bind fun d st => Rs.of (trD (drf st.m d)) st) : PT X e (semT W F E ce) := by
  refine ptW (pt_truth hv (plainT_eq hp)) fun σ H Q h => ?_
  obtain ⟨w, st, s, h⟩ := h
  rw [ht] at h
  refine ⟨w, st, s, ?_⟩
  have := PostT.step (Fr.refl w H) h
  revert this
  cases ev F ce st with
  | ok d st1 =>
    intro this w1 R1 H1 v f1 s1 h1
    obtain ⟨w2, R2, d2, st2, e2, f2, s2, h2, h3⟩ := this w1 R1 H1 v f1 s1 h1
    cases e2
    cases et : trD (drf st1.m d) with
    | none => rw [et] at h3; exact h3.elim
    | some k =>
      rw [et] at h3
      exact ⟨k, tru_rep s1 et (RpA.drf s1 (RpA.held h1)) g.K, h3 w1 H1 f1.noR s1⟩
  | ex x st1 => exact fun this => this
  | bad => exact fun this => this
/-! ### constants, names -/
theorem snd_cn {d : D} {e : Expr} (g : Gd W F c X E) (h : (match vConst e with | some k => chkC k d | none => false) = true) : Snd W F (.cn d) E X e := by
  cases ec : vConst e with
  | none => rw [ec] at h; cases h
  | some k =>
    rw [ec] at h
    obtain ⟨j, p, rfl⟩ := vConst_eq ec
    have key : ∃ v, (∀ S, RpS W S d v) ∧ PE X (.Constant k j p) (tC v) := by
      cases k <;> cases d <;> simp [chkC] at h
      · exact ⟨.non, fun _ => rpS_non, pe_non⟩
      · subst h; exact ⟨.bl _, fun _ => rpS_bl _, pe_bl⟩
      · subst h; exact ⟨.int _, fun _ => rpS_int _, pe_int⟩
      · subst h; exact ⟨.str _, fun _ => rpS_str _, pe_str⟩
    obtain ⟨v, hv, hp⟩ := key
    have h1 : PE X (.Constant k j p) (semE W F E (.cn d)) := peW hp fun σ H Q h => by
      obtain ⟨w, st, s, h⟩ := h
      exact PostE.scal h (Fr.refl w H) s (hv _)
    refine ⟨h1, ?_, fun _ => peW hp fun σ H Q h => ?_, (fun _ _ z => by cases z), rfl⟩
    · refine ptW (pt_truth hp (plainT_eq rfl)) fun σ H Q h => ?_
      obtain ⟨w, st, s, h⟩ := h
      have h' : PostT W w H σ Q E (Rs.of (trD (drf st.m d)) st) := h
      cases et : trD (drf st.m d) with
      | none => rw [et] at h'; exact h'.elim
      | some k =>
        rw [et] at h'
        exact ⟨k, tru_rep s et (RpA.drf s (RpA.ofS (R := noR) (hv _))) g.K, h' w H (Fr.refl w H) s⟩
    · obtain ⟨w, st, d2, s, e2, h⟩ := h
      cases e2
      exact h v (RpA.ofS (hv _))
theorem vis_of {sc : Scope} {x : Str} (h : visB sc x = true) : Vis sc x := by
  unfold visB at h
  simp only [Bool.or_eq_true, decide_eq_true_eq] at h
  rcases h with (h | h) | h
  · exact .inl h
  · exact .inr (.inl h)
  · exact .inr (.inr h)
theorem snd_nm {i : Nat} {m : Md} {e : Expr} (g : Gd W F c X E) (h : (match vName e with | some x => decide (c.N[i]? = some x) && visB c.sc x && !dbB x | none => false) = true) : Snd W F (.nm i m) E X e := by
  cases ec : vName e with
  | none => rw [ec] at h; cases h
  | some x =>
    rw [ec] at h
    obtain ⟨p, rfl⟩ := vName_eq ec
    simp only [Bool.and_eq_true, decide_eq_true_eq, Bool.not_eq_true', dbB, Bool.or_eq_false_iff] at h
    obtain ⟨⟨h1, h2⟩, ⟨h3, h4⟩, _⟩ := h
    have hp : PE X (.Name x p) (tVar i) := pe_var (by rw [g.N]; exact h1) (by rw [g.sc]; exact vis_of h2) h3 h4
    refine ⟨peW hp fun σ H Q h => ?_, ?_, fun _ => peW hp fun σ H Q h => ?_, (fun i2 m2 z => by cases z; exact hp), rfl⟩
    · obtain ⟨w, st, s, h⟩ := h
      obtain ⟨v, e1, q⟩ := rdN_snd s h
      exact ⟨v, e1, q⟩
    · refine ptW (pt_truth hp (plainT_eq rfl)) fun σ H Q h => ?_
      obtain ⟨w, st, s, h⟩ := h
      have h' : PostT W w H σ Q E ((Rs.of ((st.sl[i]?).join) st).bind fun d st => Rs.of (trD (drf st.m d)) st) := h
      cases ed : (st.sl[i]?).join with
      | none => rw [ed] at h'; exact h'.elim
      | some d =>
        rw [ed] at h'
        obtain ⟨v, e1, q⟩ := s.slo i d (slot_some ed)
        have h2 : PostT W w H σ Q E (Rs.of (trD (drf st.m d)) st) := h'
        cases et : trD (drf st.m d) with
        | none => rw [et] at h2; exact h2.elim
        | some k =>
          rw [et] at h2
          exact ⟨v, e1, k, tru_rep s et (RpA.drf s (RpA.of (R := noR) q)) g.K, h2 w H (Fr.refl w H) s⟩
    · obtain ⟨w, st, d, s, e2, h⟩ := h
      have e2' : (st.sl[i]?).join = some d := e2
      obtain ⟨v, e1, q⟩ := s.slo i d (slot_some e2')
      exact ⟨v, e1, h v (RpA.of q)⟩
theorem snd_gl {y : String} {e : Expr} (g : Gd W F c X E) (h : (match vName e with | some x => decide (x = sn y) && glB c.sc x && !dbB x && (F.con y).isSome | none => false) = true) : Snd W F (.gl y) E X e := by
  cases ec : vName e with
  | none => rw [ec] at h; cases h
  | some x =>
    rw [ec] at h
    obtain ⟨p, rfl⟩ := vName_eq ec
    simp only [Bool.and_eq_true, decide_eq_true_eq, Bool.not_eq_true', dbB, Bool.or_eq_false_iff] at h
    obtain ⟨⟨⟨rfl, h2⟩, ⟨h3, _⟩, _⟩, h5⟩ := h
    cases ed : F.con y with
    | none => rw [ed] at h5; cases h5
    | some d =>
      obtain ⟨u, v, hm, r, hv⟩ := g.con y d ed
      have hp : PE X (.Name (sn y) p) (tC v) := pe_glob (by show X.env.scope.names.lookup (sn y) = _; rw [g.sc]; exact of_decide_eq_true h2) hm r h3
      refine ⟨peW hp fun σ H Q h => ?_, ?_, fun _ => peW hp fun σ H Q h => ?_, (fun _ _ z => by cases z), rfl⟩
      · obtain ⟨w, st, s, h⟩ := h
        have h' : PostE W w H σ Q E (Rs.of (F.con y) st) := h
        rw [ed] at h'
        exact PostE.scal h' (Fr.refl w H) s (hv _)
      · refine ptW (pt_truth hp (plainT_eq rfl)) fun σ H Q h => ?_
        obtain ⟨w, st, s, h⟩ := h
        have h' : PostT W w H σ Q E ((Rs.of (F.con y) st).bind fun d st => Rs.of (trD (drf st.m d)) st) := h
        rw [ed] at h'
        have h2 : PostT W w H σ Q E (Rs.of (trD (drf st.m d)) st) := h'
        cases et : trD (drf st.m d) with
        | none => rw [et] at h2; exact h2.elim
        | some k =>
          rw [et] at h2
          exact ⟨k, tru_rep s et (RpA.drf s (RpA.ofS (R := noR) (hv _))) g.K, h2 w H (Fr.refl w H) s⟩
      · obtain ⟨w, st, d2, s, e2, h⟩ := h
        have e2' : F.con y = some d2 := e2
        rw [ed] at e2'; cases e2'
        exact h v (RpA.ofS (hv _))
end
end VS
/-! VS9: operators, comparisons, and, or, not, if. -/
namespace VS
open PySem PySem.Spec L2
open PyProof.Rows hiding St
/-- what is wanted of a part: good of what it comes to -/
def PostR {α : Type} (W : Wd) (w : Wh) (H : Hp) (E : L2.WX) (good : α → Sg → Prop) : Rs α → Prop
  | .ok a st => good a st
  | .ex x st => PostX W w H E x st
  | .bad => False
section
variable {W : Wd} {F : Cl} {c : Ck} {X : Cx} {E : L2.WX} {w w1 w2 : Wh} {H H1 H2 : Hp} {R Ra Rb : Own} {σ : L2.St} {st : Sg} {Q : VK}
theorem PostR.ofE {α : Type} {r : Rs α} {f : α → Sg → Rs D} (h : PostE W w H σ Q E (r.bind f)) : PostR W w H E (fun a st => PostE W w H σ Q E (f a st)) r := by cases r <;> exact h
theorem PostR.ofT {α : Type} {r : Rs α} {f : α → Sg → Rs Bool} {Q : Bool → Hp → Prop} (h : PostT W w H σ Q E (r.bind f)) : PostR W w H E (fun a st => PostT W w H σ Q E (f a st)) r := by cases r <;> exact h
theorem PostR.ofL {α : Type} {j : Nat} {r : Rs α} {f : α → Sg → Rs (List D)} {Q : List V → Hp → Prop} (h : PostL W w H σ j Q E (r.bind f)) : PostR W w H E (fun a st => PostL W w H σ j Q E (f a st)) r := by cases r <;> exact h
theorem PostR.bind {α β : Type} {r : Rs α} {f : α → Sg → Rs β} {good : β → Sg → Prop} (h : PostR W w H E good (r.bind f)) : PostR W w H E (fun a st => PostR W w H E good (f a st)) r := by cases r <;> exact h
theorem PostR.of {α : Type} {o : Option α} {good : α → Sg → Prop} (h : PostR W w H E good (Rs.of o st)) : ∃ d, o = some d ∧ good d st := by
  cases o with
  | none => exact h.elim
  | some d => exact ⟨d, rfl, h⟩
theorem PostR.imp {α : Type} {r : Rs α} {good good' : α → Sg → Prop} (h : PostR W w H E good r) (k : ∀ a st, good a st → good' a st) : PostR W w H E good' r := by
  cases r with
  | ok a st => exact k a st h
  | ex x st => exact h
  | bad => exact h
/-- a part is walked, as a value -/
theorem PostR.stepE {r : Rs D} {good : D → Sg → Prop} (fr : Fr w H w1 Ra H1) (h : PostR W w H E good r) :
    PostE W w1 H1 σ (fun v H2 => ∃ w2 Rb d st, r = .ok d st ∧ Fr w1 H1 w2 Rb H2 ∧ SRep W w2 H2 σ st ∧ Rp W (w2.wth Rb) H2 (.temp 0) d none v ∧ good d st) E r := by
  cases r with
  | ok d st => exact fun w2 Rb H2 v f2 s2 h2 => ⟨w2, Rb, d, st, rfl, f2, s2, h2, h⟩
  | ex x st => exact PostX.shift fr h
  | bad => exact h
theorem PostR.stepT {r : Rs Bool} {good : Bool → Sg → Prop} (fr : Fr w H w1 Ra H1) (h : PostR W w H E good r) :
    PostT W w1 H1 σ (fun b H2 => ∃ w2 st, r = .ok b st ∧ Fr w1 H1 w2 noR H2 ∧ SRep W w2 H2 σ st ∧ good b st) E r := by
  cases r with
  | ok d st => exact fun w2 H2 f2 s2 => ⟨w2, st, rfl, f2, s2, h⟩
  | ex x st => exact PostX.shift fr h
  | bad => exact h
theorem PostR.stepL {j : Nat} {r : Rs (List D)} {good : List D → Sg → Prop} (fr : Fr w H w1 Ra H1) (h : PostR W w H E good r) :
    PostL W w1 H1 σ j (fun vs H2 => ∃ w2 Rb ds st, r = .ok ds st ∧ Fr w1 H1 w2 Rb H2 ∧ SRep W w2 H2 σ st ∧ RpT W (w2.wth Rb) H2 j ds vs ∧ good ds st) E r := by
  cases r with
  | ok d st => exact fun w2 Rb H2 vs f2 s2 h2 => ⟨w2, Rb, d, st, rfl, f2, s2, h2, h⟩
  | ex x st => exact PostX.shift fr h
  | bad => exact h
/-- an operand: read where it lies, or made -/
def semO (W : Wd) (F : Cl) (E : L2.WX) (b : CE) : TE := if b.isPk = true then semP W F b else semE W F E b
theorem snd_opd {b : CE} {e : Expr} (S : Snd W F b E X e) : PE X e (semO W F E b) := by
  unfold semO
  by_cases h : b.isPk = true
  · rw [if_pos h]; exact S.p h
  · rw [if_neg h]; exact S.v
/-- the reading of an operand -/
theorem opd_read {b : CE} {good : D → Sg → Prop} {K : V → Hp → Prop} (fr : Fr w H w1 Ra H1) (s : SRep W w1 H1 σ st) (h : PostR W w H E good (opd b.isPk (pk F b) (ev F b) st))
    (k : ∀ y H2 w2 Rb db st2, (b.isPk = true → w2 = w1 ∧ H2 = H1 ∧ st2 = st ∧ Rb = noR ∧ pk F b st = some db) → Fr w1 H1 w2 Rb H2 → SRep W w2 H2 σ st2 → RpA W w2 Rb H2 db y → good db st2 → K y H2) : semO W F E b σ H1 K := by
  unfold semO
  unfold opd at h
  by_cases hb : b.isPk = true
  · rw [if_pos hb] at h ⊢
    obtain ⟨d, e, h⟩ := PostR.of h
    exact ⟨w1, st, d, s, e, fun v hv => k v H1 w1 noR d st (fun _ => ⟨rfl, rfl, rfl, rfl, e⟩) (Fr.refl w1 H1) s hv h⟩
  · rw [if_neg hb] at h ⊢
    refine ⟨w1, st, s, ?_⟩
    have := PostR.stepE (σ := σ) fr h
    revert this
    cases ev F b st with
    | ok d st2 =>
      intro this w2 Rb H2 v f2 s2 h2
      obtain ⟨w3, Rc, d3, st3, e3, f3, s3, h3, q3⟩ := this w2 Rb H2 v f2 s2 h2
      cases e3
      exact k v H2 w2 Rb d st2 (fun z => absurd z hb) f2 s2 (RpA.held h2) q3
    | ex x st2 => exact fun this => this
    | bad => exact fun this => this
/-- two operands -/
theorem two_snd {a b : CE} {ea eb : Expr} (g : Gd W F c X E) (Sa : Snd W F a E X ea) (Sb : Snd W F b E X eb) :
    ∃ ta tb, PE X ea ta ∧ PE X eb tb ∧ ∀ (r : L2.R2) (σ : L2.St) (H : Hp) (Q : VK) (w : Wh) (st : Sg) (good : D × D → Sg → Prop), SRep W w H σ st →
      PostR W w H E good (two (a.isNm || (a.isPk && b.isPk)) (pk F a) (ev F a) (opd b.isPk (pk F b) (ev F b)) st) →
      (∀ x y H2 w2 Rb da db st2, Fr w H w2 Rb H2 → SRep W w2 H2 σ st2 → RpA W w2 Rb H2 da x → RpA W w2 Rb H2 db y → good (da, db) st2 → r x y H2 Q) → tOp r ta tb σ H Q := by
  by_cases hn : a.isNm = true
  · -- a name
    obtain ⟨i, m, rfl⟩ : ∃ i m, a = .nm i m := by
      cases a <;> simp [CE.isNm] at hn
      exact ⟨_, _, rfl⟩
    refine ⟨_, _, Sa.n i m rfl, snd_opd Sb, ?_⟩
    intro r σ H Q w st good s h k
    rw [hn, Bool.true_or] at h
    unfold two at h
    rw [if_pos rfl] at h
    obtain ⟨d0, e0, h⟩ := PostR.of (PostR.bind h)
    have e0' : (st.sl[i]?).join = some d0 := e0
    obtain ⟨x, ex, _⟩ := s.slo i d0 (slot_some e0')
    refine ⟨x, ex, ?_⟩
    refine opd_read (Fr.refl w H) s (PostR.bind h) fun y H2 w2 Rb db st2 _ f2 s2 hy h2 => ?_
    obtain ⟨d1, e1, h2⟩ := PostR.of (PostR.bind h2)
    have e1' : (st2.sl[i]?).join = some d1 := e1
    obtain ⟨x2, ex2, q2⟩ := s2.slo i d1 (slot_some e1')
    rw [ex] at ex2
    cases ex2
    exact k x y H2 w2 Rb d1 db st2 f2 s2 (RpA.of q2) hy h2
  · by_cases hp : (a.isPk && b.isPk) = true
    · -- both read where they lie
      have hp' := Bool.and_eq_true_iff.mp hp
      refine ⟨_, _, Sa.p hp'.1, snd_opd Sb, ?_⟩
      intro r σ H Q w st good s h k
      rw [hp, Bool.or_true] at h
      unfold two at h
      rw [if_pos rfl] at h
      obtain ⟨d0, e0, h⟩ := PostR.of (PostR.bind h)
      refine ⟨w, st, d0, s, e0, fun x hx => ?_⟩
      refine opd_read (Fr.refl w H) s (PostR.bind h) fun y H2 w2 Rb db st2 z f2 s2 hy h2 => ?_
      obtain ⟨rfl, rfl, rfl, rfl, _⟩ := z hp'.2
      obtain ⟨d1, e1, h2⟩ := PostR.of (PostR.bind h2)
      rw [e0] at e1
      cases e1
      exact k x y H2 w2 noR d0 db st2 f2 s2 hx hy h2
    · -- the first one is made
      refine ⟨_, _, Sa.v, snd_opd Sb, ?_⟩
      intro r σ H Q w st good s h k
      have e1 : a.isNm = false := by simpa using hn
      have e2 : (a.isPk && b.isPk) = false := by simpa using hp
      rw [e1, e2, Bool.false_or] at h
      unfold two at h
      rw [if_neg Bool.false_ne_true] at h
      refine ⟨w, st, s, ?_⟩
      have := PostR.stepE (σ := σ) (Fr.refl w H) (PostR.bind h)
      revert this
      cases ev F a st with
      | ok da st1 =>
        intro this w1 Ra H1 x f1 s1 h1
        obtain ⟨w1', Ra', da', st1', e', f1', s1', h1', q'⟩ := this w1 Ra H1 x f1 s1 h1
        cases e'
        refine opd_read f1 s1 (PostR.bind q') fun y H2 w2 Rb db st2 _ f2 s2 hy h2 => ?_
        exact k x y H2 w2 (ownU Ra Rb) da db st2 (f1.trans f2) s2 (RpA.left f1 f2 h1) (RpA.rightA f1 f2 hy) h2
      | ex x st1 => exact fun this => this
      | bad => exact fun this => this
/-- a binary operator -/
theorem snd_bop {o : Bop} {a b : CE} {ea eb : Expr} {p : Pos} (g : Gd W F c X E) (Sa : Snd W F a E X ea) (Sb : Snd W F b E X eb) : Snd W F (.bop o a b) E X (.BinOp ea (opOf o) eb p) := by
  obtain ⟨ta, tb, pa, pb, rd⟩ := two_snd g Sa Sb
  obtain ⟨r, ho, hr⟩ := bop_snd (W := W) g.K o
  have hv : PE X (.BinOp ea (opOf o) eb p) (semE W F E (.bop o a b)) := peW (pe_op ho pa pb) fun σ H Q h => by
    obtain ⟨w, st, s, h⟩ := h
    refine rd r σ H Q w st _ s (PostR.ofE h) fun x y H2 w2 Rb da db st2 f2 s2 hx hy h2 => ?_
    obtain ⟨d, e, h3⟩ := PostE.of h2
    exact hr e (hx.drf s2) (hy.drf s2) h3 f2 s2
  exact ⟨hv, PT.of_v g hv rfl fun _ => rfl, (fun z => by cases z), (fun _ _ z => by cases z), rfl⟩
theorem snd_uop {o : Uop} {a : CE} {ea : Expr} {p : Pos} (g : Gd W F c X E) (Sa : Snd W F a E X ea) : Snd W F (.uop o a) E X (.UnaryOp (uoOf o) ea p) := by
  have key : ∃ f : Int → Int, UnR X (unaryOp (uoOf o)) (rU fun i => .int (f i)) ∧ ∀ d d', uopD o d = some d' → ∃ i, d = .int i ∧ d' = .int (f i) := by
    cases o with
    | neg => exact ⟨_, un_neg, fun d d' h => by cases d <;> simp [uopD] at h; exact ⟨_, rfl, h.symm⟩⟩
    | inv => exact ⟨_, un_inv, fun d d' h => by cases d <;> simp [uopD] at h; exact ⟨_, rfl, h.symm⟩⟩
  obtain ⟨f, hf, inv⟩ := key
  have hv : PE X (.UnaryOp (uoOf o) ea p) (semE W F E (.uop o a)) := peW (pe_un hf (snd_opd Sa)) fun σ H Q h => by
    obtain ⟨w, st, s, h⟩ := h
    refine opd_read (Fr.refl w H) s (PostR.ofE h) fun y H2 w2 Rb db st2 _ f2 s2 hy h2 => ?_
    obtain ⟨d, e, h3⟩ := PostE.of h2
    obtain ⟨i, e1, e2⟩ := inv _ _ e
    have hy' := hy.drf s2
    rw [e1] at hy'
    rw [e2] at h3
    exact ⟨i, hy'.int, h3.scal f2 s2 (rpS_int _)⟩
  refine ⟨hv, PT.of_v g hv (by cases o <;> rfl) fun _ => rfl, (fun z => by cases z), (fun _ _ z => by cases z), rfl⟩
/-- a value's step, with what it is -/
theorem evRead {a : CE} {good : D → Sg → Prop} {K : VK} (fr : Fr w H w1 Ra H1) (s : SRep W w1 H1 σ st) (h : PostR W w H E good (ev F a st))
    (k : ∀ y H2 w2 Rb db st2, Fr w1 H1 w2 Rb H2 → SRep W w2 H2 σ st2 → Rp W (w2.wth Rb) H2 (.temp 0) db none y → good db st2 → K y H2) : semE W F E a σ H1 K := by
  refine ⟨w1, st, s, ?_⟩
  have := PostR.stepE (σ := σ) fr h
  revert this
  cases ev F a st with
  | ok d st2 =>
    intro this w2 Rb H2 v f2 s2 h2
    obtain ⟨w3, Rc, d3, st3, e3, f3, s3, h3, q3⟩ := this w2 Rb H2 v f2 s2 h2
    cases e3
    exact k v H2 w2 Rb d st2 f2 s2 h2 q3
  | ex x st2 => exact fun this => this
  | bad => exact fun this => this
theorem tsRead {a : CE} {good : Bool → Sg → Prop} {K : Bool → Hp → Prop} (fr : Fr w H w1 Ra H1) (s : SRep W w1 H1 σ st) (h : PostR W w H E good (tst F a st))
    (k : ∀ b H2 w2 st2, Fr w1 H1 w2 noR H2 → SRep W w2 H2 σ st2 → good b st2 → K b H2) : semT W F E a σ H1 K := by
  refine ⟨w1, st, s, ?_⟩
  have := PostR.stepT (σ := σ) fr h
  revert this
  cases tst F a st with
  | ok d st2 =>
    intro this w2 H2 f2 s2
    obtain ⟨w3, st3, e3, f3, s3, q3⟩ := this w2 H2 f2 s2
    cases e3
    exact k d H2 w2 st2 f2 s2 q3
  | ex x st2 => exact fun this => this
  | bad => exact fun this => this
/-- the end of a part that is told from further back -/
theorem PostE.shift {r : Rs D} (fr : Fr w H w1 Ra H1) (h : PostE W w H σ Q E r) : PostE W w1 H1 σ Q E r := by
  cases r with
  | ok d st =>
    intro w2 Rb H2 v f2 s2 h2
    exact h w2 (ownU Ra Rb) H2 v (fr.trans f2) s2 (held_right (fr.apart f2) h2)
  | ex x st => exact PostX.shift fr h
  | bad => exact h
theorem PostT.shift {Q : Bool → Hp → Prop} {r : Rs Bool} (fr : Fr w H w1 Ra H1) (h : PostT W w H σ Q E r) : PostT W w1 H1 σ Q E r := by
  cases r with
  | ok d st =>
    intro w2 H2 f2 s2
    exact h w2 H2 (fr.trans f2).noR s2
  | ex x st => exact PostX.shift fr h
  | bad => exact h
/-- not -/
theorem snd_not {a : CE} {ea : Expr} {p : Pos} (g : Gd W F c X E) (Sa : Snd W F a E X ea) : Snd W F (.not_ a) E X (.UnaryOp .Not ea p) := by
  refine ⟨peW (pe_notT (snd_opd Sa)) fun σ H Q h => ?_, ptW (pt_not Sa.t) fun σ H Q h => ?_, (fun z => by cases z), (fun _ _ z => by cases z), rfl⟩
  · obtain ⟨w, st, s, h⟩ := h
    refine opd_read (Fr.refl w H) s (PostR.ofE h) fun y H2 w2 Rb db st2 _ f2 s2 hy h2 => ?_
    obtain ⟨d, e, h3⟩ := PostE.of h2
    cases et : trD (drf st2.m db) with
    | none => rw [et] at e; cases e
    | some k =>
      rw [et] at e
      cases e
      exact ⟨k, tru_rep s2 et (hy.drf s2) g.K, h3.scal f2 s2 (rpS_bl _)⟩
  · obtain ⟨w, st, s, h⟩ := h
    refine tsRead (Fr.refl w H) s (PostR.ofT (f := fun t st => .ok (!t) st) h) fun b H2 w2 st2 f2 s2 h2 => ?_
    exact h2 w2 H2 f2 s2
/-- if, as an expression -/
theorem snd_ite {a b d : CE} {ea eb ed : Expr} {p : Pos} (g : Gd W F c X E) (Sd : Snd W F d E X ed) (Sa : Snd W F a E X ea) (Sb : Snd W F b E X eb) : Snd W F (.ite d a b) E X (.IfExp ed ea eb p) := by
  have hv : PE X (.IfExp ed ea eb p) (semE W F E (.ite d a b)) := peW (pe_ifExp Sd.t Sa.v Sb.v) fun σ H Q h => by
    obtain ⟨w, st, s, h⟩ := h
    refine tsRead (Fr.refl w H) s (PostR.ofE (f := fun t st => if t then ev F a st else ev F b st) h) fun k H2 w2 st2 f2 s2 h2 => ?_
    cases k with
    | true => rw [if_pos rfl]; exact ⟨w2, st2, s2, PostE.shift f2 h2⟩
    | false => rw [if_neg Bool.false_ne_true]; exact ⟨w2, st2, s2, PostE.shift f2 h2⟩
  refine ⟨hv, ?_, (fun z => by cases z), (fun _ _ z => by cases z), rfl⟩
  refine ⟨fun pins s σ H Q I h => ?_⟩
  obtain ⟨w, st, sr, h⟩ := h
  show wpAny (model X.prog X.w) X.A (do if ← isTrue ed X.env (eval ed X.env) then isTrue ea X.env (eval ea X.env) else isTrue eb X.env (eval eb X.env)) (TP X pins σ Q) X.xe s
  refine wpAny_bind (thn (Sd.t.run pins s σ H (fun k H2 => if k = true then semT W F E a σ H2 Q else semT W F E b σ H2 Q) I ?_) fun k s1 h1 => ?_)
  · refine tsRead (Fr.refl w H) sr (PostR.ofT (f := fun t st => if t then tst F a st else tst F b st) h) fun k H2 w2 st2 f2 s2 h2 => ?_
    cases k with
    | true => rw [if_pos rfl]; exact ⟨w2, st2, s2, PostT.shift f2 h2⟩
    | false => rw [if_neg Bool.false_ne_true]; exact ⟨w2, st2, s2, PostT.shift f2 h2⟩
  · obtain ⟨H1, I1, q1⟩ := h1
    cases k with
    | true => exact Sa.t.run pins s1 σ H1 Q I1 q1
    | false => exact Sb.t.run pins s1 σ H1 Q I1 q1
end
end VS
/-! VS9c: a dict against things of other kinds (printed by gendict.py). -/
namespace VS
open PySem PySem.Spec L2 PySem.SeqAt
open PyProof.Rows hiding St
def IsDic (s : Shared) (l : Addr) : Prop := ∃ dd es n sl, s.heap.get? l = some { cls := .type "dict", dict := dd, data := .dict es n, slots := sl }
theorem dict_eq_none (l : Addr) (es : Array DictEntry) (n : Nat) (dd : Option Addr) (sl : Array (Option Value)) :
    Meets (Builtin.«dict.__eq__» ⟨[.ref l, .none], []⟩) (fun _ R s => s.heap.get? l = some { cls := .type "dict", dict := dd, data := .dict es n, slots := sl } ∧ R (.ok (.ret .notImplemented)) s) :=
  .of_wp fun prog w A R s h => by obtain ⟨hp, g, d, tk, os⟩ := s; obtain ⟨hl, h⟩ := h; have f1 := F.sub_NoneType_dict; wp_walk using wpAny_loadPart' hl; exact ⟨_, rfl, h⟩
theorem none_eq_dict (l : Addr) (es : Array DictEntry) (n : Nat) (dd : Option Addr) (sl : Array (Option Value)) :
    Meets (Builtin.«NoneType.__eq__» ⟨[.none, .ref l], []⟩) (fun _ R s => s.heap.get? l = some { cls := .type "dict", dict := dd, data := .dict es n, slots := sl } ∧ R (.ok (.ret .notImplemented)) s) :=
  .of_wp fun prog w A R s h => by obtain ⟨hp, g, d, tk, os⟩ := s; obtain ⟨hl, h⟩ := h; wp_walk using wpAny_loadPart' hl, wpAny_load hl; exact ⟨_, rfl, h⟩
theorem RcAt_dict_none {A : Around} {s : Shared} {l : Addr} (hl : IsDic s l) (hu : A.units < cLine) : RcAt A s (.ref l) (.none) false := fun prog w E Q h => by
  obtain ⟨dd, es, n, sl, ho⟩ := hl
  exact rc_eq_decline_or (k := false) ⟨_, ho, rfl⟩ rfl (by decide) F.sub_NoneType_dict F.slot_dict_eq F.slot_NoneType_eq_refl
    (fun _ hq => call_meets F.slot_dict_eq ⟨_, ho, rfl⟩ F.entry_dict_eq (F.args_dict_eq_2 _ _) (dict_eq_none l es n dd sl ) ⟨ho, hq⟩)
    (fun _ hq => call_meets F.slot_NoneType_eq_refl rfl F.entry_NoneType_eq (F.args_NoneType_eq_2 _ _) (none_eq_dict l es n dd sl ) ⟨ho, hq⟩)
    (fun _ hq => wpAny_of_eq (rfl : isSame (.ref l) (.none) = pure false) hq) (.inr hu) h
theorem RcAt_none_dict {A : Around} {s : Shared} {l : Addr} (hl : IsDic s l) (hu : A.units < cLine) : RcAt A s (.none) (.ref l) false := fun prog w E Q h => by
  obtain ⟨dd, es, n, sl, ho⟩ := hl
  exact rc_eq_decline_or (k := false) rfl ⟨_, ho, rfl⟩ (by decide) F.sub_dict_NoneType F.slot_NoneType_eq F.slot_dict_eq_refl
    (fun _ hq => call_meets F.slot_NoneType_eq rfl F.entry_NoneType_eq (F.args_NoneType_eq_2 _ _) (none_eq_dict l es n dd sl ) ⟨ho, hq⟩)
    (fun _ hq => call_meets F.slot_dict_eq_refl ⟨_, ho, rfl⟩ F.entry_dict_eq (F.args_dict_eq_2 _ _) (dict_eq_none l es n dd sl ) ⟨ho, hq⟩)
    (fun _ hq => wpAny_of_eq (rfl : isSame (.none) (.ref l) = pure false) hq) (.inr hu) h
theorem EqAt_dict_none {A : Around} {s : Shared} {l : Addr} (hl : IsDic s l) (hu : A.units < cLine) : EqAt A s (.ref l) (.none) false := fun prog w E Q h => by
  unfold eqBool
  refine wpAny_holding ?_
  refine wpAny_ite_split (fun hab => absurd (eq_of_beq hab) nofun) (fun _ => ?_)
  exact wpAny_bind (RcAt_dict_none  hl hu prog w E _ (wpAny_truthy_bool h))
theorem EqAt_none_dict {A : Around} {s : Shared} {l : Addr} (hl : IsDic s l) (hu : A.units < cLine) : EqAt A s (.none) (.ref l) false := fun prog w E Q h => by
  unfold eqBool
  refine wpAny_holding ?_
  refine wpAny_ite_split (fun hab => absurd (eq_of_beq hab) nofun) (fun _ => ?_)
  exact wpAny_bind (RcAt_none_dict  hl hu prog w E _ (wpAny_truthy_bool h))
theorem dict_eq_bool (l : Addr) (es : Array DictEntry) (n : Nat) (dd : Option Addr) (sl : Array (Option Value)) (b : Bool) :
    Meets (Builtin.«dict.__eq__» ⟨[.ref l, .bool b], []⟩) (fun _ R s => s.heap.get? l = some { cls := .type "dict", dict := dd, data := .dict es n, slots := sl } ∧ R (.ok (.ret .notImplemented)) s) :=
  .of_wp fun prog w A R s h => by obtain ⟨hp, g, d, tk, os⟩ := s; obtain ⟨hl, h⟩ := h; have f1 := F.sub_bool_dict; wp_walk using wpAny_loadPart' hl; exact ⟨_, rfl, h⟩
theorem bool_eq_dict (l : Addr) (es : Array DictEntry) (n : Nat) (dd : Option Addr) (sl : Array (Option Value)) (b : Bool) :
    Meets (Builtin.«int.__eq__» ⟨[.bool b, .ref l], []⟩) (fun _ R s => s.heap.get? l = some { cls := .type "dict", dict := dd, data := .dict es n, slots := sl } ∧ R (.ok (.ret .notImplemented)) s) :=
  .of_wp fun prog w A R s h => by obtain ⟨hp, g, d, tk, os⟩ := s; obtain ⟨hl, h⟩ := h; wp_walk using wpAny_loadPart' hl, wpAny_load hl; exact ⟨_, rfl, h⟩
theorem RcAt_dict_bool {A : Around} {s : Shared} {l : Addr} (b : Bool) (hl : IsDic s l) (hu : A.units < cLine) : RcAt A s (.ref l) (.bool b) false := fun prog w E Q h => by
  obtain ⟨dd, es, n, sl, ho⟩ := hl
  exact rc_eq_decline_or (k := false) ⟨_, ho, rfl⟩ rfl (by decide) F.sub_bool_dict F.slot_dict_eq F.slot_bool_eq_refl
    (fun _ hq => call_meets F.slot_dict_eq ⟨_, ho, rfl⟩ F.entry_dict_eq (F.args_dict_eq_2 _ _) (dict_eq_bool l es n dd sl b) ⟨ho, hq⟩)
    (fun _ hq => call_meets F.slot_bool_eq_refl rfl F.entry_int_eq (F.args_int_eq_2 _ _) (bool_eq_dict l es n dd sl b) ⟨ho, hq⟩)
    (fun _ hq => wpAny_of_eq (rfl : isSame (.ref l) (.bool b) = pure false) hq) (.inr hu) h
theorem RcAt_bool_dict {A : Around} {s : Shared} {l : Addr} (b : Bool) (hl : IsDic s l) (hu : A.units < cLine) : RcAt A s (.bool b) (.ref l) false := fun prog w E Q h => by
  obtain ⟨dd, es, n, sl, ho⟩ := hl
  exact rc_eq_decline_or (k := false) rfl ⟨_, ho, rfl⟩ (by decide) F.sub_dict_bool F.slot_bool_eq F.slot_dict_eq_refl
    (fun _ hq => call_meets F.slot_bool_eq rfl F.entry_int_eq (F.args_int_eq_2 _ _) (bool_eq_dict l es n dd sl b) ⟨ho, hq⟩)
    (fun _ hq => call_meets F.slot_dict_eq_refl ⟨_, ho, rfl⟩ F.entry_dict_eq (F.args_dict_eq_2 _ _) (dict_eq_bool l es n dd sl b) ⟨ho, hq⟩)
    (fun _ hq => wpAny_of_eq (rfl : isSame (.bool b) (.ref l) = pure false) hq) (.inr hu) h
theorem EqAt_dict_bool {A : Around} {s : Shared} {l : Addr} (b : Bool) (hl : IsDic s l) (hu : A.units < cLine) : EqAt A s (.ref l) (.bool b) false := fun prog w E Q h => by
  unfold eqBool
  refine wpAny_holding ?_
  refine wpAny_ite_split (fun hab => absurd (eq_of_beq hab) nofun) (fun _ => ?_)
  exact wpAny_bind (RcAt_dict_bool b hl hu prog w E _ (wpAny_truthy_bool h))
theorem EqAt_bool_dict {A : Around} {s : Shared} {l : Addr} (b : Bool) (hl : IsDic s l) (hu : A.units < cLine) : EqAt A s (.bool b) (.ref l) false := fun prog w E Q h => by
  unfold eqBool
  refine wpAny_holding ?_
  refine wpAny_ite_split (fun hab => absurd (eq_of_beq hab) nofun) (fun _ => ?_)
  exact wpAny_bind (RcAt_bool_dict b hl hu prog w E _ (wpAny_truthy_bool h))
theorem dict_eq_int (l : Addr) (es : Array DictEntry) (n : Nat) (dd : Option Addr) (sl : Array (Option Value)) (b : Int) (u : Tok) :
    Meets (Builtin.«dict.__eq__» ⟨[.ref l, .int b u], []⟩) (fun _ R s => s.heap.get? l = some { cls := .type "dict", dict := dd, data := .dict es n, slots := sl } ∧ R (.ok (.ret .notImplemented)) s) :=
  .of_wp fun prog w A R s h => by obtain ⟨hp, g, d, tk, os⟩ := s; obtain ⟨hl, h⟩ := h; have f1 := F.sub_int_dict; wp_walk using wpAny_loadPart' hl; exact ⟨_, rfl, h⟩
theorem int_eq_dict (l : Addr) (es : Array DictEntry) (n : Nat) (dd : Option Addr) (sl : Array (Option Value)) (b : Int) (u : Tok) :
    Meets (Builtin.«int.__eq__» ⟨[.int b u, .ref l], []⟩) (fun _ R s => s.heap.get? l = some { cls := .type "dict", dict := dd, data := .dict es n, slots := sl } ∧ R (.ok (.ret .notImplemented)) s) :=
  .of_wp fun prog w A R s h => by obtain ⟨hp, g, d, tk, os⟩ := s; obtain ⟨hl, h⟩ := h; wp_walk using wpAny_loadPart' hl, wpAny_load hl; exact ⟨_, rfl, h⟩
theorem RcAt_dict_int {A : Around} {s : Shared} {l : Addr} (b : Int) (u : Tok) (hl : IsDic s l) (hu : A.units < cLine) : RcAt A s (.ref l) (.int b u) false := fun prog w E Q h => by
  obtain ⟨dd, es, n, sl, ho⟩ := hl
  exact rc_eq_decline_or (k := false) ⟨_, ho, rfl⟩ (typeIs_int s b u) (by decide) F.sub_int_dict F.slot_dict_eq F.slot_int_eq_refl
    (fun _ hq => call_meets F.slot_dict_eq ⟨_, ho, rfl⟩ F.entry_dict_eq (F.args_dict_eq_2 _ _) (dict_eq_int l es n dd sl b u) ⟨ho, hq⟩)
    (fun _ hq => call_meets F.slot_int_eq_refl (typeIs_int s b u) F.entry_int_eq (F.args_int_eq_2 _ _) (int_eq_dict l es n dd sl b u) ⟨ho, hq⟩)
    (fun _ hq => wpAny_of_eq (rfl : isSame (.ref l) (.int b u) = pure false) hq) (.inr hu) h
theorem RcAt_int_dict {A : Around} {s : Shared} {l : Addr} (b : Int) (u : Tok) (hl : IsDic s l) (hu : A.units < cLine) : RcAt A s (.int b u) (.ref l) false := fun prog w E Q h => by
  obtain ⟨dd, es, n, sl, ho⟩ := hl
  exact rc_eq_decline_or (k := false) (typeIs_int s b u) ⟨_, ho, rfl⟩ (by decide) F.sub_dict_int F.slot_int_eq F.slot_dict_eq_refl
    (fun _ hq => call_meets F.slot_int_eq (typeIs_int s b u) F.entry_int_eq (F.args_int_eq_2 _ _) (int_eq_dict l es n dd sl b u) ⟨ho, hq⟩)
    (fun _ hq => call_meets F.slot_dict_eq_refl ⟨_, ho, rfl⟩ F.entry_dict_eq (F.args_dict_eq_2 _ _) (dict_eq_int l es n dd sl b u) ⟨ho, hq⟩)
    (fun _ hq => wpAny_of_eq (rfl : isSame (.int b u) (.ref l) = pure false) hq) (.inr hu) h
theorem EqAt_dict_int {A : Around} {s : Shared} {l : Addr} (b : Int) (u : Tok) (hl : IsDic s l) (hu : A.units < cLine) : EqAt A s (.ref l) (.int b u) false := fun prog w E Q h => by
  unfold eqBool
  refine wpAny_holding ?_
  refine wpAny_ite_split (fun hab => absurd (eq_of_beq hab) nofun) (fun _ => ?_)
  exact wpAny_bind (RcAt_dict_int b u hl hu prog w E _ (wpAny_truthy_bool h))
theorem EqAt_int_dict {A : Around} {s : Shared} {l : Addr} (b : Int) (u : Tok) (hl : IsDic s l) (hu : A.units < cLine) : EqAt A s (.int b u) (.ref l) false := fun prog w E Q h => by
  unfold eqBool
  refine wpAny_holding ?_
  refine wpAny_ite_split (fun hab => absurd (eq_of_beq hab) nofun) (fun _ => ?_)
  exact wpAny_bind (RcAt_int_dict b u hl hu prog w E _ (wpAny_truthy_bool h))
theorem dict_eq_str (l : Addr) (es : Array DictEntry) (n : Nat) (dd : Option Addr) (sl : Array (Option Value)) (b : Str) (u : Tok) :
    Meets (Builtin.«dict.__eq__» ⟨[.ref l, .str b u], []⟩) (fun _ R s => s.heap.get? l = some { cls := .type "dict", dict := dd, data := .dict es n, slots := sl } ∧ R (.ok (.ret .notImplemented)) s) :=
  .of_wp fun prog w A R s h => by obtain ⟨hp, g, d, tk, os⟩ := s; obtain ⟨hl, h⟩ := h; have f1 := F.sub_str_dict; wp_walk using wpAny_loadPart' hl; exact ⟨_, rfl, h⟩
theorem str_eq_dict (l : Addr) (es : Array DictEntry) (n : Nat) (dd : Option Addr) (sl : Array (Option Value)) (b : Str) (u : Tok) :
    Meets (Builtin.«str.__eq__» ⟨[.str b u, .ref l], []⟩) (fun _ R s => s.heap.get? l = some { cls := .type "dict", dict := dd, data := .dict es n, slots := sl } ∧ R (.ok (.ret .notImplemented)) s) :=
  .of_wp fun prog w A R s h => by obtain ⟨hp, g, d, tk, os⟩ := s; obtain ⟨hl, h⟩ := h; wp_walk using wpAny_loadPart' hl, wpAny_load hl; exact ⟨_, rfl, h⟩
theorem RcAt_dict_str {A : Around} {s : Shared} {l : Addr} (b : Str) (u : Tok) (hl : IsDic s l) (hu : A.units < cLine) : RcAt A s (.ref l) (.str b u) false := fun prog w E Q h => by
  obtain ⟨dd, es, n, sl, ho⟩ := hl
  exact rc_eq_decline_or (k := false) ⟨_, ho, rfl⟩ (typeIs_str s b u) (by decide) F.sub_str_dict F.slot_dict_eq F.slot_str_eq_refl
    (fun _ hq => call_meets F.slot_dict_eq ⟨_, ho, rfl⟩ F.entry_dict_eq (F.args_dict_eq_2 _ _) (dict_eq_str l es n dd sl b u) ⟨ho, hq⟩)
    (fun _ hq => call_meets F.slot_str_eq_refl (typeIs_str s b u) F.entry_str_eq (F.args_str_eq_2 _ _) (str_eq_dict l es n dd sl b u) ⟨ho, hq⟩)
    (fun _ hq => wpAny_of_eq (rfl : isSame (.ref l) (.str b u) = pure false) hq) (.inr hu) h
theorem RcAt_str_dict {A : Around} {s : Shared} {l : Addr} (b : Str) (u : Tok) (hl : IsDic s l) (hu : A.units < cLine) : RcAt A s (.str b u) (.ref l) false := fun prog w E Q h => by
  obtain ⟨dd, es, n, sl, ho⟩ := hl
  exact rc_eq_decline_or (k := false) (typeIs_str s b u) ⟨_, ho, rfl⟩ (by decide) F.sub_dict_str F.slot_str_eq F.slot_dict_eq_refl
    (fun _ hq => call_meets F.slot_str_eq (typeIs_str s b u) F.entry_str_eq (F.args_str_eq_2 _ _) (str_eq_dict l es n dd sl b u) ⟨ho, hq⟩)
    (fun _ hq => call_meets F.slot_dict_eq_refl ⟨_, ho, rfl⟩ F.entry_dict_eq (F.args_dict_eq_2 _ _) (dict_eq_str l es n dd sl b u) ⟨ho, hq⟩)
    (fun _ hq => wpAny_of_eq (rfl : isSame (.str b u) (.ref l) = pure false) hq) (.inr hu) h
theorem EqAt_dict_str {A : Around} {s : Shared} {l : Addr} (b : Str) (u : Tok) (hl : IsDic s l) (hu : A.units < cLine) : EqAt A s (.ref l) (.str b u) false := fun prog w E Q h => by
  unfold eqBool
  refine wpAny_holding ?_
  refine wpAny_ite_split (fun hab => absurd (eq_of_beq hab) nofun) (fun _ => ?_)
  exact wpAny_bind (RcAt_dict_str b u hl hu prog w E _ (wpAny_truthy_bool h))
theorem EqAt_str_dict {A : Around} {s : Shared} {l : Addr} (b : Str) (u : Tok) (hl : IsDic s l) (hu : A.units < cLine) : EqAt A s (.str b u) (.ref l) false := fun prog w E Q h => by
  unfold eqBool
  refine wpAny_holding ?_
  refine wpAny_ite_split (fun hab => absurd (eq_of_beq hab) nofun) (fun _ => ?_)
  exact wpAny_bind (RcAt_str_dict b u hl hu prog w E _ (wpAny_truthy_bool h))
theorem dict_eq_list (l : Addr) (es : Array DictEntry) (n : Nat) (dd : Option Addr) (sl : Array (Option Value)) (b : Addr) (items : Array Value) (n2 : Nat) (dd2 : Option Addr) (sl2 : Array (Option Value)) :
    Meets (Builtin.«dict.__eq__» ⟨[.ref l, .ref b], []⟩) (fun _ R s => s.heap.get? l = some { cls := .type "dict", dict := dd, data := .dict es n, slots := sl } ∧ s.heap.get? b = some { cls := .type "list", dict := dd2, data := .seq items n2, slots := sl2 } ∧ R (.ok (.ret .notImplemented)) s) :=
  .of_wp fun prog w A R s h => by obtain ⟨hp, g, d, tk, os⟩ := s; obtain ⟨hl, hb, h⟩ := h; have f1 := F.sub_list_dict; wp_walk using wpAny_loadPart' hl, wpAny_loadPart' hb; exact ⟨_, rfl, h⟩
theorem list_eq_dict (l : Addr) (es : Array DictEntry) (n : Nat) (dd : Option Addr) (sl : Array (Option Value)) (b : Addr) (items : Array Value) (n2 : Nat) (dd2 : Option Addr) (sl2 : Array (Option Value)) :
    Meets (Builtin.«list.__eq__» ⟨[.ref b, .ref l], []⟩) (fun _ R s => s.heap.get? l = some { cls := .type "dict", dict := dd, data := .dict es n, slots := sl } ∧ s.heap.get? b = some { cls := .type "list", dict := dd2, data := .seq items n2, slots := sl2 } ∧ R (.ok (.ret .notImplemented)) s) :=
  .of_wp fun prog w A R s h => by obtain ⟨hp, g, d, tk, os⟩ := s; obtain ⟨hl, hb, h⟩ := h; have f1 := F.sub_dict_list; wp_walk using wpAny_loadPart' hb, wpAny_loadPart' hl; exact ⟨_, rfl, h⟩
theorem RcAt_dict_list {A : Around} {s : Shared} {l b : Addr} {items : Array Value} (hl : IsDic s l) (hb : s.heap.IsList b items) (hne : l ≠ b) (hu : A.units < cLine) : RcAt A s (.ref l) (.ref b) false := fun prog w E Q h => by
  obtain ⟨dd, es, n, sl, ho⟩ := hl
  obtain ⟨⟨cls2, dd2, data2, sl2⟩, ho2, hc2, n2, hd2⟩ := id hb
  simp only at hc2 hd2
  subst hc2 hd2
  exact rc_eq_decline_or (k := false) ⟨_, ho, rfl⟩ ⟨_, ho2, rfl⟩ (by decide) F.sub_list_dict F.slot_dict_eq F.slot_list_eq_refl
    (fun _ hq => call_meets F.slot_dict_eq ⟨_, ho, rfl⟩ F.entry_dict_eq (F.args_dict_eq_2 _ _) (dict_eq_list l es n dd sl b items n2 dd2 sl2) ⟨ho, ho2, hq⟩)
    (fun _ hq => call_meets F.slot_list_eq_refl ⟨_, ho2, rfl⟩ F.entry_list_eq (F.args_list_eq_2 _ _) (list_eq_dict l es n dd sl b items n2 dd2 sl2) ⟨ho, ho2, hq⟩)
    (fun _ hq => wpAny_isSame_ref_other' hne ho ho2 (by simp) hq) (.inr hu) h
theorem RcAt_list_dict {A : Around} {s : Shared} {l b : Addr} {items : Array Value} (hl : IsDic s l) (hb : s.heap.IsList b items) (hne : l ≠ b) (hu : A.units < cLine) : RcAt A s (.ref b) (.ref l) false := fun prog w E Q h => by
  obtain ⟨dd, es, n, sl, ho⟩ := hl
  obtain ⟨⟨cls2, dd2, data2, sl2⟩, ho2, hc2, n2, hd2⟩ := id hb
  simp only at hc2 hd2
  subst hc2 hd2
  exact rc_eq_decline_or (k := false) ⟨_, ho2, rfl⟩ ⟨_, ho, rfl⟩ (by decide) F.sub_dict_list F.slot_list_eq F.slot_dict_eq_refl
    (fun _ hq => call_meets F.slot_list_eq ⟨_, ho2, rfl⟩ F.entry_list_eq (F.args_list_eq_2 _ _) (list_eq_dict l es n dd sl b items n2 dd2 sl2) ⟨ho, ho2, hq⟩)
    (fun _ hq => call_meets F.slot_dict_eq_refl ⟨_, ho, rfl⟩ F.entry_dict_eq (F.args_dict_eq_2 _ _) (dict_eq_list l es n dd sl b items n2 dd2 sl2) ⟨ho, ho2, hq⟩)
    (fun _ hq => wpAny_isSame_ref_other' (Ne.symm hne) ho2 ho (by simp) hq) (.inr hu) h
theorem dict_eq_tuple (l : Addr) (es : Array DictEntry) (n : Nat) (dd : Option Addr) (sl : Array (Option Value)) (b : Addr) (items : Array Value) (n2 : Nat) (dd2 : Option Addr) (sl2 : Array (Option Value)) :
    Meets (Builtin.«dict.__eq__» ⟨[.ref l, .ref b], []⟩) (fun _ R s => s.heap.get? l = some { cls := .type "dict", dict := dd, data := .dict es n, slots := sl } ∧ s.heap.get? b = some { cls := .type "tuple", dict := dd2, data := .seq items n2, slots := sl2 } ∧ R (.ok (.ret .notImplemented)) s) :=
  .of_wp fun prog w A R s h => by obtain ⟨hp, g, d, tk, os⟩ := s; obtain ⟨hl, hb, h⟩ := h; have f1 := F.sub_tuple_dict; wp_walk using wpAny_loadPart' hl, wpAny_loadPart' hb; exact ⟨_, rfl, h⟩
theorem tuple_eq_dict (l : Addr) (es : Array DictEntry) (n : Nat) (dd : Option Addr) (sl : Array (Option Value)) (b : Addr) (items : Array Value) (n2 : Nat) (dd2 : Option Addr) (sl2 : Array (Option Value)) :
    Meets (Builtin.«tuple.__eq__» ⟨[.ref b, .ref l], []⟩) (fun _ R s => s.heap.get? l = some { cls := .type "dict", dict := dd, data := .dict es n, slots := sl } ∧ s.heap.get? b = some { cls := .type "tuple", dict := dd2, data := .seq items n2, slots := sl2 } ∧ R (.ok (.ret .notImplemented)) s) :=
  .of_wp fun prog w A R s h => by obtain ⟨hp, g, d, tk, os⟩ := s; obtain ⟨hl, hb, h⟩ := h; have f1 := F.sub_dict_tuple; wp_walk using wpAny_loadPart' hb, wpAny_loadPart' hl; exact ⟨_, rfl, h⟩
theorem RcAt_dict_tuple {A : Around} {s : Shared} {l b : Addr} {items : Array Value} (hl : IsDic s l) (hb : s.heap.IsTuple b items) (hne : l ≠ b) (hu : A.units < cLine) : RcAt A s (.ref l) (.ref b) false := fun prog w E Q h => by
  obtain ⟨dd, es, n, sl, ho⟩ := hl
  obtain ⟨⟨cls2, dd2, data2, sl2⟩, ho2, hc2, n2, hd2⟩ := id hb
  simp only at hc2 hd2
  subst hc2 hd2
  exact rc_eq_decline_or (k := false) ⟨_, ho, rfl⟩ ⟨_, ho2, rfl⟩ (by decide) F.sub_tuple_dict F.slot_dict_eq F.slot_tuple_eq_refl
    (fun _ hq => call_meets F.slot_dict_eq ⟨_, ho, rfl⟩ F.entry_dict_eq (F.args_dict_eq_2 _ _) (dict_eq_tuple l es n dd sl b items n2 dd2 sl2) ⟨ho, ho2, hq⟩)
    (fun _ hq => call_meets F.slot_tuple_eq_refl ⟨_, ho2, rfl⟩ F.entry_tuple_eq (F.args_tuple_eq_2 _ _) (tuple_eq_dict l es n dd sl b items n2 dd2 sl2) ⟨ho, ho2, hq⟩)
    (fun _ hq => wpAny_isSame_ref_other hne ho ho2 (by simp) hq) (.inr hu) h
theorem RcAt_tuple_dict {A : Around} {s : Shared} {l b : Addr} {items : Array Value} (hl : IsDic s l) (hb : s.heap.IsTuple b items) (hne : l ≠ b) (hu : A.units < cLine) : RcAt A s (.ref b) (.ref l) false := fun prog w E Q h => by
  obtain ⟨dd, es, n, sl, ho⟩ := hl
  obtain ⟨⟨cls2, dd2, data2, sl2⟩, ho2, hc2, n2, hd2⟩ := id hb
  simp only at hc2 hd2
  subst hc2 hd2
  exact rc_eq_decline_or (k := false) ⟨_, ho2, rfl⟩ ⟨_, ho, rfl⟩ (by decide) F.sub_dict_tuple F.slot_tuple_eq F.slot_dict_eq_refl
    (fun _ hq => call_meets F.slot_tuple_eq ⟨_, ho2, rfl⟩ F.entry_tuple_eq (F.args_tuple_eq_2 _ _) (tuple_eq_dict l es n dd sl b items n2 dd2 sl2) ⟨ho, ho2, hq⟩)
    (fun _ hq => call_meets F.slot_dict_eq_refl ⟨_, ho, rfl⟩ F.entry_dict_eq (F.args_dict_eq_2 _ _) (dict_eq_tuple l es n dd sl b items n2 dd2 sl2) ⟨ho, ho2, hq⟩)
    (fun _ hq => wpAny_isSame_ref_other' (Ne.symm hne) ho2 ho (by simp) hq) (.inr hu) h
theorem dict_ne_none (l : Addr) (es : Array DictEntry) (n : Nat) (dd : Option Addr) (sl : Array (Option Value)) :
    Meets (Builtin.«dict.__ne__» ⟨[.ref l, .none], []⟩) (fun _ R s => s.heap.get? l = some { cls := .type "dict", dict := dd, data := .dict es n, slots := sl } ∧ R (.ok (.ret .notImplemented)) s) :=
  .of_wp fun prog w A R s h => by obtain ⟨hp, g, d, tk, os⟩ := s; obtain ⟨hl, h⟩ := h; have f1 := F.sub_NoneType_dict; wp_walk using wpAny_loadPart' hl; exact ⟨_, rfl, h⟩
theorem none_ne_dict (l : Addr) (es : Array DictEntry) (n : Nat) (dd : Option Addr) (sl : Array (Option Value)) :
    Meets (Builtin.«NoneType.__ne__» ⟨[.none, .ref l], []⟩) (fun _ R s => s.heap.get? l = some { cls := .type "dict", dict := dd, data := .dict es n, slots := sl } ∧ R (.ok (.ret .notImplemented)) s) :=
  .of_wp fun prog w A R s h => by obtain ⟨hp, g, d, tk, os⟩ := s; obtain ⟨hl, h⟩ := h; wp_walk using wpAny_loadPart' hl, wpAny_load hl; exact ⟨_, rfl, h⟩
theorem RcNeAt_dict_none {A : Around} {s : Shared} {l : Addr} (hl : IsDic s l) (hu : A.units < cLine) : RcNeAt A s (.ref l) (.none) true := fun prog w E Q h => by
  obtain ⟨dd, es, n, sl, ho⟩ := hl
  exact rc_ne_decline_or (k := false) ⟨_, ho, rfl⟩ rfl (by decide) F.sub_NoneType_dict F.slot_dict_ne F.slot_NoneType_ne_refl
    (fun _ hq => call_meets F.slot_dict_ne ⟨_, ho, rfl⟩ F.entry_dict_ne (F.args_dict_ne_2 _ _) (dict_ne_none l es n dd sl ) ⟨ho, hq⟩)
    (fun _ hq => call_meets F.slot_NoneType_ne_refl rfl F.entry_NoneType_ne (F.args_NoneType_ne_2 _ _) (none_ne_dict l es n dd sl ) ⟨ho, hq⟩)
    (fun _ hq => wpAny_of_eq (rfl : isSame (.ref l) (.none) = pure false) hq) (.inr hu) h
theorem RcNeAt_none_dict {A : Around} {s : Shared} {l : Addr} (hl : IsDic s l) (hu : A.units < cLine) : RcNeAt A s (.none) (.ref l) true := fun prog w E Q h => by
  obtain ⟨dd, es, n, sl, ho⟩ := hl
  exact rc_ne_decline_or (k := false) rfl ⟨_, ho, rfl⟩ (by decide) F.sub_dict_NoneType F.slot_NoneType_ne F.slot_dict_ne_refl
    (fun _ hq => call_meets F.slot_NoneType_ne rfl F.entry_NoneType_ne (F.args_NoneType_ne_2 _ _) (none_ne_dict l es n dd sl ) ⟨ho, hq⟩)
    (fun _ hq => call_meets F.slot_dict_ne_refl ⟨_, ho, rfl⟩ F.entry_dict_ne (F.args_dict_ne_2 _ _) (dict_ne_none l es n dd sl ) ⟨ho, hq⟩)
    (fun _ hq => wpAny_of_eq (rfl : isSame (.none) (.ref l) = pure false) hq) (.inr hu) h
theorem dict_ne_bool (l : Addr) (es : Array DictEntry) (n : Nat) (dd : Option Addr) (sl : Array (Option Value)) (b : Bool) :
    Meets (Builtin.«dict.__ne__» ⟨[.ref l, .bool b], []⟩) (fun _ R s => s.heap.get? l = some { cls := .type "dict", dict := dd, data := .dict es n, slots := sl } ∧ R (.ok (.ret .notImplemented)) s) :=
  .of_wp fun prog w A R s h => by obtain ⟨hp, g, d, tk, os⟩ := s; obtain ⟨hl, h⟩ := h; have f1 := F.sub_bool_dict; wp_walk using wpAny_loadPart' hl; exact ⟨_, rfl, h⟩
theorem bool_ne_dict (l : Addr) (es : Array DictEntry) (n : Nat) (dd : Option Addr) (sl : Array (Option Value)) (b : Bool) :
    Meets (Builtin.«int.__ne__» ⟨[.bool b, .ref l], []⟩) (fun _ R s => s.heap.get? l = some { cls := .type "dict", dict := dd, data := .dict es n, slots := sl } ∧ R (.ok (.ret .notImplemented)) s) :=
  .of_wp fun prog w A R s h => by obtain ⟨hp, g, d, tk, os⟩ := s; obtain ⟨hl, h⟩ := h; wp_walk using wpAny_loadPart' hl, wpAny_load hl; exact ⟨_, rfl, h⟩
theorem RcNeAt_dict_bool {A : Around} {s : Shared} {l : Addr} (b : Bool) (hl : IsDic s l) (hu : A.units < cLine) : RcNeAt A s (.ref l) (.bool b) true := fun prog w E Q h => by
  obtain ⟨dd, es, n, sl, ho⟩ := hl
  exact rc_ne_decline_or (k := false) ⟨_, ho, rfl⟩ rfl (by decide) F.sub_bool_dict F.slot_dict_ne F.slot_bool_ne_refl
    (fun _ hq => call_meets F.slot_dict_ne ⟨_, ho, rfl⟩ F.entry_dict_ne (F.args_dict_ne_2 _ _) (dict_ne_bool l es n dd sl b) ⟨ho, hq⟩)
    (fun _ hq => call_meets F.slot_bool_ne_refl rfl F.entry_int_ne (F.args_int_ne_2 _ _) (bool_ne_dict l es n dd sl b) ⟨ho, hq⟩)
    (fun _ hq => wpAny_of_eq (rfl : isSame (.ref l) (.bool b) = pure false) hq) (.inr hu) h
theorem RcNeAt_bool_dict {A : Around} {s : Shared} {l : Addr} (b : Bool) (hl : IsDic s l) (hu : A.units < cLine) : RcNeAt A s (.bool b) (.ref l) true := fun prog w E Q h => by
  obtain ⟨dd, es, n, sl, ho⟩ := hl
  exact rc_ne_decline_or (k := false) rfl ⟨_, ho, rfl⟩ (by decide) F.sub_dict_bool F.slot_bool_ne F.slot_dict_ne_refl
    (fun _ hq => call_meets F.slot_bool_ne rfl F.entry_int_ne (F.args_int_ne_2 _ _) (bool_ne_dict l es n dd sl b) ⟨ho, hq⟩)
    (fun _ hq => call_meets F.slot_dict_ne_refl ⟨_, ho, rfl⟩ F.entry_dict_ne (F.args_dict_ne_2 _ _) (dict_ne_bool l es n dd sl b) ⟨ho, hq⟩)
    (fun _ hq => wpAny_of_eq (rfl : isSame (.bool b) (.ref l) = pure false) hq) (.inr hu) h
theorem dict_ne_int (l : Addr) (es : Array DictEntry) (n : Nat) (dd : Option Addr) (sl : Array (Option Value)) (b : Int) (u : Tok) :
    Meets (Builtin.«dict.__ne__» ⟨[.ref l, .int b u], []⟩) (fun _ R s => s.heap.get? l = some { cls := .type "dict", dict := dd, data := .dict es n, slots := sl } ∧ R (.ok (.ret .notImplemented)) s) :=
  .of_wp fun prog w A R s h => by obtain ⟨hp, g, d, tk, os⟩ := s; obtain ⟨hl, h⟩ := h; have f1 := F.sub_int_dict; wp_walk using wpAny_loadPart' hl; exact ⟨_, rfl, h⟩
theorem int_ne_dict (l : Addr) (es : Array DictEntry) (n : Nat) (dd : Option Addr) (sl : Array (Option Value)) (b : Int) (u : Tok) :
    Meets (Builtin.«int.__ne__» ⟨[.int b u, .ref l], []⟩) (fun _ R s => s.heap.get? l = some { cls := .type "dict", dict := dd, data := .dict es n, slots := sl } ∧ R (.ok (.ret .notImplemented)) s) :=
  .of_wp fun prog w A R s h => by obtain ⟨hp, g, d, tk, os⟩ := s; obtain ⟨hl, h⟩ := h; wp_walk using wpAny_loadPart' hl, wpAny_load hl; exact ⟨_, rfl, h⟩
theorem RcNeAt_dict_int {A : Around} {s : Shared} {l : Addr} (b : Int) (u : Tok) (hl : IsDic s l) (hu : A.units < cLine) : RcNeAt A s (.ref l) (.int b u) true := fun prog w E Q h => by
  obtain ⟨dd, es, n, sl, ho⟩ := hl
  exact rc_ne_decline_or (k := false) ⟨_, ho, rfl⟩ (typeIs_int s b u) (by decide) F.sub_int_dict F.slot_dict_ne F.slot_int_ne_refl
    (fun _ hq => call_meets F.slot_dict_ne ⟨_, ho, rfl⟩ F.entry_dict_ne (F.args_dict_ne_2 _ _) (dict_ne_int l es n dd sl b u) ⟨ho, hq⟩)
    (fun _ hq => call_meets F.slot_int_ne_refl (typeIs_int s b u) F.entry_int_ne (F.args_int_ne_2 _ _) (int_ne_dict l es n dd sl b u) ⟨ho, hq⟩)
    (fun _ hq => wpAny_of_eq (rfl : isSame (.ref l) (.int b u) = pure false) hq) (.inr hu) h
theorem RcNeAt_int_dict {A : Around} {s : Shared} {l : Addr} (b : Int) (u : Tok) (hl : IsDic s l) (hu : A.units < cLine) : RcNeAt A s (.int b u) (.ref l) true := fun prog w E Q h => by
  obtain ⟨dd, es, n, sl, ho⟩ := hl
  exact rc_ne_decline_or (k := false) (typeIs_int s b u) ⟨_, ho, rfl⟩ (by decide) F.sub_dict_int F.slot_int_ne F.slot_dict_ne_refl
    (fun _ hq => call_meets F.slot_int_ne (typeIs_int s b u) F.entry_int_ne (F.args_int_ne_2 _ _) (int_ne_dict l es n dd sl b u) ⟨ho, hq⟩)
    (fun _ hq => call_meets F.slot_dict_ne_refl ⟨_, ho, rfl⟩ F.entry_dict_ne (F.args_dict_ne_2 _ _) (dict_ne_int l es n dd sl b u) ⟨ho, hq⟩)
    (fun _ hq => wpAny_of_eq (rfl : isSame (.int b u) (.ref l) = pure false) hq) (.inr hu) h
theorem dict_ne_str (l : Addr) (es : Array DictEntry) (n : Nat) (dd : Option Addr) (sl : Array (Option Value)) (b : Str) (u : Tok) :
    Meets (Builtin.«dict.__ne__» ⟨[.ref l, .str b u], []⟩) (fun _ R s => s.heap.get? l = some { cls := .type "dict", dict := dd, data := .dict es n, slots := sl } ∧ R (.ok (.ret .notImplemented)) s) :=
  .of_wp fun prog w A R s h => by obtain ⟨hp, g, d, tk, os⟩ := s; obtain ⟨hl, h⟩ := h; have f1 := F.sub_str_dict; wp_walk using wpAny_loadPart' hl; exact ⟨_, rfl, h⟩
theorem str_ne_dict (l : Addr) (es : Array DictEntry) (n : Nat) (dd : Option Addr) (sl : Array (Option Value)) (b : Str) (u : Tok) :
    Meets (Builtin.«str.__ne__» ⟨[.str b u, .ref l], []⟩) (fun _ R s => s.heap.get? l = some { cls := .type "dict", dict := dd, data := .dict es n, slots := sl } ∧ R (.ok (.ret .notImplemented)) s) :=
  .of_wp fun prog w A R s h => by obtain ⟨hp, g, d, tk, os⟩ := s; obtain ⟨hl, h⟩ := h; wp_walk using wpAny_loadPart' hl, wpAny_load hl; exact ⟨_, rfl, h⟩
theorem RcNeAt_dict_str {A : Around} {s : Shared} {l : Addr} (b : Str) (u : Tok) (hl : IsDic s l) (hu : A.units < cLine) : RcNeAt A s (.ref l) (.str b u) true := fun prog w E Q h => by
  obtain ⟨dd, es, n, sl, ho⟩ := hl
  exact rc_ne_decline_or (k := false) ⟨_, ho, rfl⟩ (typeIs_str s b u) (by decide) F.sub_str_dict F.slot_dict_ne F.slot_str_ne_refl
    (fun _ hq => call_meets F.slot_dict_ne ⟨_, ho, rfl⟩ F.entry_dict_ne (F.args_dict_ne_2 _ _) (dict_ne_str l es n dd sl b u) ⟨ho, hq⟩)
    (fun _ hq => call_meets F.slot_str_ne_refl (typeIs_str s b u) F.entry_str_ne (F.args_str_ne_2 _ _) (str_ne_dict l es n dd sl b u) ⟨ho, hq⟩)
    (fun _ hq => wpAny_of_eq (rfl : isSame (.ref l) (.str b u) = pure false) hq) (.inr hu) h
theorem RcNeAt_str_dict {A : Around} {s : Shared} {l : Addr} (b : Str) (u : Tok) (hl : IsDic s l) (hu : A.units < cLine) : RcNeAt A s (.str b u) (.ref l) true := fun prog w E Q h => by
  obtain ⟨dd, es, n, sl, ho⟩ := hl
  exact rc_ne_decline_or (k := false) (typeIs_str s b u) ⟨_, ho, rfl⟩ (by decide) F.sub_dict_str F.slot_str_ne F.slot_dict_ne_refl
    (fun _ hq => call_meets F.slot_str_ne (typeIs_str s b u) F.entry_str_ne (F.args_str_ne_2 _ _) (str_ne_dict l es n dd sl b u) ⟨ho, hq⟩)
    (fun _ hq => call_meets F.slot_dict_ne_refl ⟨_, ho, rfl⟩ F.entry_dict_ne (F.args_dict_ne_2 _ _) (dict_ne_str l es n dd sl b u) ⟨ho, hq⟩)
    (fun _ hq => wpAny_of_eq (rfl : isSame (.str b u) (.ref l) = pure false) hq) (.inr hu) h
theorem dict_ne_list (l : Addr) (es : Array DictEntry) (n : Nat) (dd : Option Addr) (sl : Array (Option Value)) (b : Addr) (items : Array Value) (n2 : Nat) (dd2 : Option Addr) (sl2 : Array (Option Value)) :
    Meets (Builtin.«dict.__ne__» ⟨[.ref l, .ref b], []⟩) (fun _ R s => s.heap.get? l = some { cls := .type "dict", dict := dd, data := .dict es n, slots := sl } ∧ s.heap.get? b = some { cls := .type "list", dict := dd2, data := .seq items n2, slots := sl2 } ∧ R (.ok (.ret .notImplemented)) s) :=
  .of_wp fun prog w A R s h => by obtain ⟨hp, g, d, tk, os⟩ := s; obtain ⟨hl, hb, h⟩ := h; have f1 := F.sub_list_dict; wp_walk using wpAny_loadPart' hl, wpAny_loadPart' hb; exact ⟨_, rfl, h⟩
theorem list_ne_dict (l : Addr) (es : Array DictEntry) (n : Nat) (dd : Option Addr) (sl : Array (Option Value)) (b : Addr) (items : Array Value) (n2 : Nat) (dd2 : Option Addr) (sl2 : Array (Option Value)) :
    Meets (Builtin.«list.__ne__» ⟨[.ref b, .ref l], []⟩) (fun _ R s => s.heap.get? l = some { cls := .type "dict", dict := dd, data := .dict es n, slots := sl } ∧ s.heap.get? b = some { cls := .type "list", dict := dd2, data := .seq items n2, slots := sl2 } ∧ R (.ok (.ret .notImplemented)) s) :=
  .of_wp fun prog w A R s h => by obtain ⟨hp, g, d, tk, os⟩ := s; obtain ⟨hl, hb, h⟩ := h; have f1 := F.sub_dict_list; wp_walk using wpAny_loadPart' hb, wpAny_loadPart' hl; exact ⟨_, rfl, h⟩
theorem RcNeAt_dict_list {A : Around} {s : Shared} {l b : Addr} {items : Array Value} (hl : IsDic s l) (hb : s.heap.IsList b items) (hne : l ≠ b) (hu : A.units < cLine) : RcNeAt A s (.ref l) (.ref b) true := fun prog w E Q h => by
  obtain ⟨dd, es, n, sl, ho⟩ := hl
  obtain ⟨⟨cls2, dd2, data2, sl2⟩, ho2, hc2, n2, hd2⟩ := id hb
  simp only at hc2 hd2
  subst hc2 hd2
  exact rc_ne_decline_or (k := false) ⟨_, ho, rfl⟩ ⟨_, ho2, rfl⟩ (by decide) F.sub_list_dict F.slot_dict_ne F.slot_list_ne_refl
    (fun _ hq => call_meets F.slot_dict_ne ⟨_, ho, rfl⟩ F.entry_dict_ne (F.args_dict_ne_2 _ _) (dict_ne_list l es n dd sl b items n2 dd2 sl2) ⟨ho, ho2, hq⟩)
    (fun _ hq => call_meets F.slot_list_ne_refl ⟨_, ho2, rfl⟩ F.entry_list_ne (F.args_list_ne_2 _ _) (list_ne_dict l es n dd sl b items n2 dd2 sl2) ⟨ho, ho2, hq⟩)
    (fun _ hq => wpAny_isSame_ref_other' hne ho ho2 (by simp) hq) (.inr hu) h
theorem RcNeAt_list_dict {A : Around} {s : Shared} {l b : Addr} {items : Array Value} (hl : IsDic s l) (hb : s.heap.IsList b items) (hne : l ≠ b) (hu : A.units < cLine) : RcNeAt A s (.ref b) (.ref l) true := fun prog w E Q h => by
  obtain ⟨dd, es, n, sl, ho⟩ := hl
  obtain ⟨⟨cls2, dd2, data2, sl2⟩, ho2, hc2, n2, hd2⟩ := id hb
  simp only at hc2 hd2
  subst hc2 hd2
  exact rc_ne_decline_or (k := false) ⟨_, ho2, rfl⟩ ⟨_, ho, rfl⟩ (by decide) F.sub_dict_list F.slot_list_ne F.slot_dict_ne_refl
    (fun _ hq => call_meets F.slot_list_ne ⟨_, ho2, rfl⟩ F.entry_list_ne (F.args_list_ne_2 _ _) (list_ne_dict l es n dd sl b items n2 dd2 sl2) ⟨ho, ho2, hq⟩)
    (fun _ hq => call_meets F.slot_dict_ne_refl ⟨_, ho, rfl⟩ F.entry_dict_ne (F.args_dict_ne_2 _ _) (dict_ne_list l es n dd sl b items n2 dd2 sl2) ⟨ho, ho2, hq⟩)
    (fun _ hq => wpAny_isSame_ref_other' (Ne.symm hne) ho2 ho (by simp) hq) (.inr hu) h
theorem dict_ne_tuple (l : Addr) (es : Array DictEntry) (n : Nat) (dd : Option Addr) (sl : Array (Option Value)) (b : Addr) (items : Array Value) (n2 : Nat) (dd2 : Option Addr) (sl2 : Array (Option Value)) :
    Meets (Builtin.«dict.__ne__» ⟨[.ref l, .ref b], []⟩) (fun _ R s => s.heap.get? l = some { cls := .type "dict", dict := dd, data := .dict es n, slots := sl } ∧ s.heap.get? b = some { cls := .type "tuple", dict := dd2, data := .seq items n2, slots := sl2 } ∧ R (.ok (.ret .notImplemented)) s) :=
  .of_wp fun prog w A R s h => by obtain ⟨hp, g, d, tk, os⟩ := s; obtain ⟨hl, hb, h⟩ := h; have f1 := F.sub_tuple_dict; wp_walk using wpAny_loadPart' hl, wpAny_loadPart' hb; exact ⟨_, rfl, h⟩
theorem tuple_ne_dict (l : Addr) (es : Array DictEntry) (n : Nat) (dd : Option Addr) (sl : Array (Option Value)) (b : Addr) (items : Array Value) (n2 : Nat) (dd2 : Option Addr) (sl2 : Array (Option Value)) :
    Meets (Builtin.«tuple.__ne__» ⟨[.ref b, .ref l], []⟩) (fun _ R s => s.heap.get? l = some { cls := .type "dict", dict := dd, data := .dict es n, slots := sl } ∧ s.heap.get? b = some { cls := .type "tuple", dict := dd2, data := .seq items n2, slots := sl2 } ∧ R (.ok (.ret .notImplemented)) s) :=
  .of_wp fun prog w A R s h => by obtain ⟨hp, g, d, tk, os⟩ := s; obtain ⟨hl, hb, h⟩ := h; have f1 := F.sub_dict_tuple; wp_walk using wpAny_loadPart' hb, wpAny_loadPart' hl; exact ⟨_, rfl, h⟩
theorem RcNeAt_dict_tuple {A : Around} {s : Shared} {l b : Addr} {items : Array Value} (hl : IsDic s l) (hb : s.heap.IsTuple b items) (hne : l ≠ b) (hu : A.units < cLine) : RcNeAt A s (.ref l) (.ref b) true := fun prog w E Q h => by
  obtain ⟨dd, es, n, sl, ho⟩ := hl
  obtain ⟨⟨cls2, dd2, data2, sl2⟩, ho2, hc2, n2, hd2⟩ := id hb
  simp only at hc2 hd2
  subst hc2 hd2
  exact rc_ne_decline_or (k := false) ⟨_, ho, rfl⟩ ⟨_, ho2, rfl⟩ (by decide) F.sub_tuple_dict F.slot_dict_ne F.slot_tuple_ne_refl
    (fun _ hq => call_meets F.slot_dict_ne ⟨_, ho, rfl⟩ F.entry_dict_ne (F.args_dict_ne_2 _ _) (dict_ne_tuple l es n dd sl b items n2 dd2 sl2) ⟨ho, ho2, hq⟩)
    (fun _ hq => call_meets F.slot_tuple_ne_refl ⟨_, ho2, rfl⟩ F.entry_tuple_ne (F.args_tuple_ne_2 _ _) (tuple_ne_dict l es n dd sl b items n2 dd2 sl2) ⟨ho, ho2, hq⟩)
    (fun _ hq => wpAny_isSame_ref_other hne ho ho2 (by simp) hq) (.inr hu) h
theorem RcNeAt_tuple_dict {A : Around} {s : Shared} {l b : Addr} {items : Array Value} (hl : IsDic s l) (hb : s.heap.IsTuple b items) (hne : l ≠ b) (hu : A.units < cLine) : RcNeAt A s (.ref b) (.ref l) true := fun prog w E Q h => by
  obtain ⟨dd, es, n, sl, ho⟩ := hl
  obtain ⟨⟨cls2, dd2, data2, sl2⟩, ho2, hc2, n2, hd2⟩ := id hb
  simp only at hc2 hd2
  subst hc2 hd2
  exact rc_ne_decline_or (k := false) ⟨_, ho2, rfl⟩ ⟨_, ho, rfl⟩ (by decide) F.sub_dict_tuple F.slot_tuple_ne F.slot_dict_ne_refl
    (fun _ hq => call_meets F.slot_tuple_ne ⟨_, ho2, rfl⟩ F.entry_tuple_ne (F.args_tuple_ne_2 _ _) (tuple_ne_dict l es n dd sl b items n2 dd2 sl2) ⟨ho, ho2, hq⟩)
    (fun _ hq => call_meets F.slot_dict_ne_refl ⟨_, ho, rfl⟩ F.entry_dict_ne (F.args_dict_ne_2 _ _) (dict_ne_tuple l es n dd sl b items n2 dd2 sl2) ⟨ho, ho2, hq⟩)
    (fun _ hq => wpAny_isSame_ref_other' (Ne.symm hne) ho2 ho (by simp) hq) (.inr hu) h
end VS
/-! VS10: equality and order of data. -/
namespace VS
open PySem PySem.Spec L2 PySem.SeqAt
open PyProof.Rows hiding St
mutual
/-- to be read as data -/
def Vr (K : PySem.W.Frag) (H : Hp) : D → V → Prop
  | .non, v => v = .non
  | .bl b, v => v = .bl b
  | .int i, v => v = .int i
  | .str s, v => v = .str (cps s)
  | .node _ k xs, v => ∃ a vs, v = .ref a ∧ ((k = .tup ∧ SqT K H a vs) ∨ (k = .lst ∧ SqL K H a vs) ∨ (k = .dK [] ∧ vs = [] ∧ Rd H a (.dK []))) ∧ VrL K H xs vs
  | .cell _, _ => False
def VrL (K : PySem.W.Frag) (H : Hp) : List D → List V → Prop
  | [], vs => vs = []
  | x :: r, vs => ∃ v s, vs = v :: s ∧ Vr K H x v ∧ VrL K H r s
end
section
variable {W : Wd} {w : Wh} {R : Own} {H : Hp} {σ : L2.St} {st : Sg} {K : PySem.W.Frag}
theorem RdK.dic {W : Wd} {H : Hp} {a : Addr} {vs : List V} (h : RdK W H a vs (.dK [])) : Rd H a (.dK []) := by
  obtain ⟨o, h1, h2⟩ := h
  have e : o = .dK (zipK (([] : List KA).map keyK) vs) := h2.1
  subst e
  exact h1.1
mutual
theorem RpA.vr (sle : ∀ a u, w.S a = some u → RdX H a u) : ∀ {d : D} {n : Nat} {v : V}, D.okE n d = true → RpA W w R H d v → Vr K H d v
  | .non, _, _, _, h => by simpa only [Vr] using h.non
  | .bl _, _, _, _, h => by simpa only [Vr] using h.bl
  | .int _, _, _, _, h => by simpa only [Vr] using h.int
  | .str _, _, _, _, h => by simpa only [Vr] using h.str
  | .cell _, _, _, e, _ => by simp [D.okE] at e
  | .node o k xs, n, v, e, h => by
    obtain ⟨a, vs, e1, ra, la⟩ := h.node sle
    simp only [Vr]
    by_cases hk : k = .dK []
    · subst hk
      simp [D.okE] at e
      subst e
      simp only [RpAL] at la
      subst la
      exact ⟨a, [], e1, .inr (.inr ⟨rfl, rfl, ra.dic⟩), by simp only [VrL]⟩
    cases n with
    | zero => simp [D.okE, hk] at e
    | succ n =>
      simp only [D.okE, Bool.and_eq_true, Bool.or_eq_true, decide_eq_true_eq, hk, false_and, false_or] at e
      refine ⟨a, vs, e1, ?_, RpAL.vr sle e.2 la⟩
      rcases e.1 with rfl | rfl
      · exact .inl ⟨rfl, ra.tup⟩
      · exact .inr (.inl ⟨rfl, ra.list⟩)
theorem RpAL.vr (sle : ∀ a u, w.S a = some u → RdX H a u) : ∀ {xs : List D} {n : Nat} {vs : List V}, D.okEL n xs = true → RpAL W w R H xs vs → VrL K H xs vs
  | [], _, _, _, h => by simpa only [VrL, RpAL] using h
  | x :: xs, n, vs, e, h => by
    simp only [RpAL] at h
    obtain ⟨v, s, e1, q, t⟩ := h
    simp only [D.okEL, Bool.and_eq_true] at e
    simp only [VrL]
    exact ⟨v, s, e1, RpA.vr sle e.1 q, RpAL.vr sle e.2 t⟩
end
theorem VrL.len : ∀ {xs : List D} {vs : List V}, VrL K H xs vs → xs.length = vs.length
  | [], _, h => by simp only [VrL] at h; subst h; rfl
  | x :: xs, vs, h => by
    simp only [VrL] at h
    obtain ⟨v, s, e, _, t⟩ := h
    rw [e, List.length_cons, List.length_cons, VrL.len t]
/-- the i-th pair -/
def pairD (xs ys : List D) (j : Nat) : Bool := match xs[j]?, ys[j]? with
  | some x, some y => D.eqD x y
  | _, _ => false
theorem eqL_len : ∀ {xs ys : List D}, xs.length ≠ ys.length → D.eqL xs ys = false
  | [], [], h => absurd rfl h
  | [], _ :: _, _ => by simp [D.eqL]
  | _ :: _, [], _ => by simp [D.eqL]
  | x :: xs, y :: ys, h => by
    simp only [D.eqL, eqL_len (xs := xs) (ys := ys) (by simpa using h), Bool.and_false]
theorem eqL_all : ∀ xs ys : List D, ((List.range (min xs.length ys.length)).all (pairD xs ys) && xs.length == ys.length) = D.eqL xs ys
  | [], [] => by simp [D.eqL]
  | [], _ :: _ => by simp [D.eqL]
  | _ :: _, [] => by simp [D.eqL]
  | x :: xs, y :: ys => by
    have ih := eqL_all xs ys
    have e1 : min (x :: xs).length (y :: ys).length = min xs.length ys.length + 1 := by simp only [List.length_cons]; omega
    have e2 : ((x :: xs).length == (y :: ys).length) = (xs.length == ys.length) := by simp
    have e3 : (List.range (min xs.length ys.length + 1)).all (pairD (x :: xs) (y :: ys)) = (D.eqD x y && (List.range (min xs.length ys.length)).all (pairD xs ys)) := by
      rw [List.range_succ_eq_map, List.all_cons, List.all_map]
      first | rfl | simp [pairD, Function.comp_def]
    rw [e1, e2, e3]
    simp only [D.eqL]
    rw [← ih, Bool.and_assoc]
theorem eqL_same {xs ys : List D} (h : xs.length = ys.length) : (List.range xs.length).all (pairD xs ys) = D.eqL xs ys := by
  have := eqL_all xs ys
  rw [← h, Nat.min_self] at this
  simpa using this
end
section
variable {X : Cx} {pins : List (Addr × Obj)} {σ : L2.St} {H : Hp} {s : Shared}
theorem isL (I : Inv X pins σ H s) {a : Addr} {vs : List V} (h : SqL X.K H a vs) : ∃ its : List Value, Vals vs its ∧ s.heap.IsList a its.toArray := by
  obtain ⟨its, r, p, _⟩ := I.list h
  exact ⟨its, r, p.isList⟩
theorem isT (I : Inv X pins σ H s) {a : Addr} {vs : List V} (h : SqT X.K H a vs) : ∃ its : List Value, Vals vs its ∧ s.heap.IsTuple a its.toArray := by
  obtain ⟨its, r, p, _⟩ := I.tuple h
  exact ⟨its, r, p⟩
theorem isE (I : Inv X pins σ H s) {a : Addr} (h : Rd H a (.dK [])) : IsDic s a := by
  obtain ⟨_, _, vs, _, o, es, ep, h1, h2, h3, _⟩ := (show ObjOk X.prog X.w H s.heap a (.dK []) from h.ok I.hok)
  obtain ⟨oc, od, dt, sl⟩ := o
  obtain ⟨e1, e2, e3⟩ := h2
  simp only at e1 e2 e3 h3
  subst e1 e2 e3 h3
  exact ⟨_, _, _, _, h1⟩
theorem isE0 (I : Inv X pins σ H s) {a : Addr} (h : Rd H a (.dK [])) : (a == sysModules) = false ∧ ∀ {prog : Program} {w : World} {K : Type} [DecidableEq K] (knd : KeyKind prog w K), s.heap.DictOf knd a [] := by
  obtain ⟨_, ns, vs, kv, o, es, ep, h1, h2, h3, h4, h5, _⟩ := (show ObjOk X.prog X.w H s.heap a (.dK []) from h.ok I.hok)
  refine ⟨ns, fun knd => ?_⟩
  cases kv
  have e0 : es.toList = [] := List.eq_nil_of_length_eq_zero (by simpa using h5.length)
  refine ⟨o, es, ep, h1, h2, h3, ?_, by rw [e0]; exact .nil, by simp⟩
  have : es = #[] := by cases es; simpa using e0
  subst this
  exact fun e he => by simp at he
theorem dic_tup {a : Addr} {its : Array Value} (h : IsDic s a) (h2 : s.heap.IsTuple a its) : False := by
  obtain ⟨_, _, _, _, e⟩ := h
  obtain ⟨o, e2, c, _⟩ := h2
  rw [e] at e2; cases e2; injection c with c; exact absurd c (by decide)
theorem dic_list {a : Addr} {its : Array Value} (h : IsDic s a) (h2 : s.heap.IsList a its) : False := by
  obtain ⟨_, _, _, _, e⟩ := h
  obtain ⟨o, e2, c, _⟩ := h2
  rw [e] at e2; cases e2; injection c with c; exact absurd c (by decide)
theorem rcAt_dics (I : Inv X pins σ H s) {A : Around} {a b : Addr} (h : Rd H a (.dK [])) (h2 : Rd H b (.dK [])) (hu : A.units < cLine) : RcAt A s (.ref a) (.ref b) true := fun prog w E Q q => by
  obtain ⟨n1, d1⟩ := isE0 I h
  obtain ⟨n2, d2⟩ := isE0 I h2
  exact PySem.W.keq_eq (knd := intKind prog w) (r := true) n1 n2 (d1 _) (d2 _) hu (fun _ => .nil) q
theorem rcNe_dics (I : Inv X pins σ H s) {A : Around} {a b : Addr} (h : Rd H a (.dK [])) (h2 : Rd H b (.dK [])) (hu : A.units < cLine) : RcNeAt A s (.ref a) (.ref b) false := fun prog w E Q q => by
  obtain ⟨n1, d1⟩ := isE0 I h
  obtain ⟨n2, d2⟩ := isE0 I h2
  exact PySem.W.keq_ne (knd := intKind prog w) (r := true) n1 n2 (d1 _) (d2 _) hu (fun _ => .nil) q
mutual
theorem vr_same (I : Inv X pins σ H s) : ∀ {d e : D} {v : V}, Vr X.K H d v → Vr X.K H e v → D.eqD d e = true
  | .non, e, v, h, k => by
    simp only [Vr] at h; subst h
    cases e <;> simp [Vr] at k
    simp [D.eqD]
  | .bl b, e, v, h, k => by
    simp only [Vr] at h; subst h
    cases e <;> simp [Vr] at k
    subst k; simp [D.eqD]
  | .int b, e, v, h, k => by
    simp only [Vr] at h; subst h
    cases e <;> simp [Vr] at k
    subst k; simp [D.eqD]
  | .str b, e, v, h, k => by
    simp only [Vr] at h; subst h
    cases e <;> simp [Vr] at k
    subst k; simp [D.eqD]
  | .cell _, e, v, h, k => by simp [Vr] at h
  | .node o kn xs, e, v, h, k => by
    simp only [Vr] at h
    obtain ⟨a, vs, rfl, q, t⟩ := h
    cases e with
    | node o2 kn2 ys =>
      simp only [Vr] at k
      obtain ⟨b, us, e, q2, t2⟩ := k
      cases e
      rcases q with ⟨rfl, q⟩ | ⟨rfl, q⟩ | ⟨rfl, rfl, q⟩
      · rcases q2 with ⟨rfl, q2⟩ | ⟨rfl, q2⟩ | ⟨rfl, rfl, q2⟩
        · have := I.tuple_inj q q2
          subst this
          simp only [D.eqD]
          exact vrL_same I t t2
        · obtain ⟨its, r, ⟨o, e, c, _⟩, _⟩ := I.tuple q
          obtain ⟨its2, r2, ⟨o2, n2, e2, c2, _⟩, _⟩ := I.list q2
          rw [e] at e2; cases e2; rw [c] at c2; injection c2 with c3; exact absurd c3 (by decide)
        · obtain ⟨its, r, p⟩ := isT I q; exact (dic_tup (isE I q2) p).elim
      · rcases q2 with ⟨rfl, q2⟩ | ⟨rfl, q2⟩ | ⟨rfl, rfl, q2⟩
        · obtain ⟨its, r, ⟨o, e, c, _⟩, _⟩ := I.tuple q2
          obtain ⟨its2, r2, ⟨o2, n2, e2, c2, _⟩, _⟩ := I.list q
          rw [e] at e2; cases e2; rw [c] at c2; injection c2 with c3; exact absurd c3 (by decide)
        · have := I.list_inj q q2
          subst this
          simp only [D.eqD]
          exact vrL_same I t t2
        · obtain ⟨its, r, p⟩ := isL I q; exact (dic_list (isE I q2) p).elim
      · rcases q2 with ⟨rfl, q2⟩ | ⟨rfl, q2⟩ | ⟨rfl, rfl, q2⟩
        · obtain ⟨its, r, p⟩ := isT I q2; exact (dic_tup (isE I q) p).elim
        · obtain ⟨its, r, p⟩ := isL I q2; exact (dic_list (isE I q) p).elim
        · simp only [D.eqD]; rfl
    | _ => simp [Vr] at k
theorem vrL_same (I : Inv X pins σ H s) : ∀ {xs ys : List D} {vs : List V}, VrL X.K H xs vs → VrL X.K H ys vs → D.eqL xs ys = true
  | [], ys, vs, h, k => by
    simp only [VrL] at h; subst h
    cases ys with
    | nil => simp [D.eqL]
    | cons => simp [VrL] at k
  | x :: xs, ys, vs, h, k => by
    simp only [VrL] at h
    obtain ⟨v, r, rfl, q, t⟩ := h
    cases ys with
    | nil => simp [VrL] at k
    | cons y ys =>
      simp only [VrL] at k
      obtain ⟨v2, r2, e, q2, t2⟩ := k
      cases e
      simp only [D.eqL, vr_same I q q2, vrL_same I t t2, Bool.and_self]
end
mutual
theorem vr_eq (I : Inv X pins σ H s) : ∀ (d e : D) (n : Nat) (A : Around) {x y : V} {u v : Value}, D.okE n d = true → Vr X.K H d x → Vr X.K H e y → RelV x u → RelV y v → A.units + n + 1 < cLine → EqAt A s u v (D.eqD d e)
  | .non, e, n, A, x, y, u, v, _, hd, he, rx, ry, hu => by
    simp only [Vr] at hd; subst hd; cases rx
    cases e with
    | non => simp only [Vr] at he; subst he; cases ry; exact EqAt.same _
    | bl b => simp only [Vr] at he; subst he; cases ry; simpa [D.eqD] using EqAt.none_bool (A := A) (s := s) b
    | int b => simp only [Vr] at he; subst he; obtain ⟨t, rfl⟩ := ry; simpa [D.eqD] using EqAt.none_int (A := A) (s := s) b t
    | str b => simp only [Vr] at he; subst he; obtain ⟨t, rfl⟩ := ry; simpa [D.eqD] using EqAt.none_str (A := A) (s := s) (cps b) t
    | cell n => simp [Vr] at he
    | node o k ys =>
      simp only [Vr] at he
      obtain ⟨b, us, rfl, q, t⟩ := he
      cases ry
      rcases q with ⟨rfl, q⟩ | ⟨rfl, q⟩ | ⟨rfl, q⟩
      · obtain ⟨its, r, p⟩ := isT I q; simpa [D.eqD] using EqAt.none_tuple (A := A) p (by omega)
      · obtain ⟨its, r, p⟩ := isL I q; simpa [D.eqD] using EqAt.none_list (A := A) p (by omega)
      · simpa [D.eqD] using EqAt_none_dict  (isE I q.2) (by omega)
  | .bl c, e, n, A, x, y, u, v, _, hd, he, rx, ry, hu => by
    simp only [Vr] at hd; subst hd; cases rx
    cases e with
    | non => simp only [Vr] at he; subst he; cases ry; simpa [D.eqD] using EqAt.bool_none (A := A) (s := s) c
    | bl b => simp only [Vr] at he; subst he; cases ry; simpa [D.eqD] using EqAt.bool_bool (A := A) (s := s) c b
    | int b =>
                simp only [Vr] at he; subst he; obtain ⟨t, rfl⟩ := ry
                have z : decide (b2i c = b) = ((if c = true then (1 : Int) else 0) == b) := by cases c <;> simp [b2i, Bool.beq_eq_decide_eq]
                simp only [D.eqD]; rw [z]; exact EqAt.bool_int (A := A) (s := s) c b t
    | str b => simp only [Vr] at he; subst he; obtain ⟨t, rfl⟩ := ry; simpa [D.eqD] using EqAt.bool_str (A := A) (s := s) c (cps b) t
    | cell n => simp [Vr] at he
    | node o k ys =>
      simp only [Vr] at he
      obtain ⟨b, us, rfl, q, t⟩ := he
      cases ry
      rcases q with ⟨rfl, q⟩ | ⟨rfl, q⟩ | ⟨rfl, q⟩
      · obtain ⟨its, r, p⟩ := isT I q; simpa [D.eqD] using EqAt.bool_tuple (A := A) c p (by omega)
      · obtain ⟨its, r, p⟩ := isL I q; simpa [D.eqD] using EqAt.bool_list (A := A) c p (by omega)
      · simpa [D.eqD] using EqAt_bool_dict c (isE I q.2) (by omega)
  | .int c, e, n, A, x, y, u, v, _, hd, he, rx, ry, hu => by
    simp only [Vr] at hd; subst hd; obtain ⟨tt, rfl⟩ := rx
    cases e with
    | non => simp only [Vr] at he; subst he; cases ry; simpa [D.eqD] using EqAt.int_none (A := A) (s := s) c tt
    | bl b =>
               simp only [Vr] at he; subst he; cases ry
               have z : decide (c = b2i b) = (c == (if b = true then (1 : Int) else 0)) := by cases b <;> simp [b2i, Bool.beq_eq_decide_eq]
               simp only [D.eqD]; rw [z]; exact EqAt.int_bool (A := A) (s := s) c tt b
    | int b => simp only [Vr] at he; subst he; obtain ⟨t, rfl⟩ := ry; simpa [D.eqD, Bool.beq_eq_decide_eq] using EqAt.int_int (A := A) (s := s) c tt b t
    | str b => simp only [Vr] at he; subst he; obtain ⟨t, rfl⟩ := ry; simpa [D.eqD] using EqAt.int_str (A := A) (s := s) c tt (cps b) t
    | cell n => simp [Vr] at he
    | node o k ys =>
      simp only [Vr] at he
      obtain ⟨b, us, rfl, q, t⟩ := he
      cases ry
      rcases q with ⟨rfl, q⟩ | ⟨rfl, q⟩ | ⟨rfl, q⟩
      · obtain ⟨its, r, p⟩ := isT I q; simpa [D.eqD] using EqAt.int_tuple (A := A) c tt p (by omega)
      · obtain ⟨its, r, p⟩ := isL I q; simpa [D.eqD] using EqAt.int_list (A := A) c tt p (by omega)
      · simpa [D.eqD] using EqAt_int_dict c tt (isE I q.2) (by omega)
  | .str c, e, n, A, x, y, u, v, _, hd, he, rx, ry, hu => by
    simp only [Vr] at hd; subst hd; obtain ⟨tt, rfl⟩ := rx
    cases e with
    | non => simp only [Vr] at he; subst he; cases ry; simpa [D.eqD] using EqAt.str_none (A := A) (s := s) (cps c) tt
    | bl b => simp only [Vr] at he; subst he; cases ry; simpa [D.eqD] using EqAt.str_bool (A := A) (s := s) (cps c) tt b
    | int b => simp only [Vr] at he; subst he; obtain ⟨t, rfl⟩ := ry; simpa [D.eqD] using EqAt.str_int (A := A) (s := s) (cps c) tt b t
    | str b =>
      simp only [Vr] at he; subst he; obtain ⟨t, rfl⟩ := ry
      have z : (cps c == cps b) = decide (c = b) := by
        by_cases q : c = b
        · subst q; simp
        · have : cps c ≠ cps b := fun h => q (cps_inj h)
          rw [decide_eq_false q]; simpa using this
      have := EqAt.str_str (A := A) (s := s) (cps c) tt (cps b) t
      rw [z] at this
      simpa only [D.eqD] using this
    | cell n => simp [Vr] at he
    | node o k ys =>
      simp only [Vr] at he
      obtain ⟨b, us, rfl, q, t⟩ := he
      cases ry
      rcases q with ⟨rfl, q⟩ | ⟨rfl, q⟩ | ⟨rfl, q⟩
      · obtain ⟨its, r, p⟩ := isT I q; simpa [D.eqD] using EqAt.str_tuple (A := A) (cps c) tt p (by omega)
      · obtain ⟨its, r, p⟩ := isL I q; simpa [D.eqD] using EqAt.str_list (A := A) (cps c) tt p (by omega)
      · simpa [D.eqD] using EqAt_str_dict (cps c) tt (isE I q.2) (by omega)
  | .cell _, e, n, A, x, y, u, v, h, _, _, _, _, _ => by simp [D.okE] at h
  | .node o k xs, e, n, A, x, y, u, v, hn, hd, he, rx, ry, hu => by
    have hd0 := hd
    simp only [Vr] at hd
    obtain ⟨a, vs, rfl, q, t⟩ := hd
    cases rx
    by_cases hk : k = .dK []
    · subst hk
      rcases q with ⟨z, _⟩ | ⟨z, _⟩ | ⟨_, _, q⟩
      · cases z
      · cases z
      have p := isE I q
      cases e with
      | non => simp only [Vr] at he; subst he; cases ry; simpa [D.eqD] using EqAt_dict_none p (by omega)
      | bl b => simp only [Vr] at he; subst he; cases ry; simpa [D.eqD] using EqAt_dict_bool b p (by omega)
      | int b => simp only [Vr] at he; subst he; obtain ⟨tt, rfl⟩ := ry; simpa [D.eqD] using EqAt_dict_int b tt p (by omega)
      | str b => simp only [Vr] at he; subst he; obtain ⟨tt, rfl⟩ := ry; simpa [D.eqD] using EqAt_dict_str (cps b) tt p (by omega)
      | cell n => simp [Vr] at he
      | node o2 k2 ys =>
        simp only [Vr] at he
        obtain ⟨b, us, rfl, q2, t2⟩ := he
        cases ry
        rcases q2 with ⟨rfl, q2⟩ | ⟨rfl, q2⟩ | ⟨rfl, q2⟩
        · obtain ⟨its2, r2, p2⟩ := isT I q2
          have hne : a ≠ b := fun z => by subst z; exact dic_tup p p2
          simpa [D.eqD] using EqAt.of_refs hne (RcAt_dict_tuple p p2 hne (by omega))
        · obtain ⟨its2, r2, p2⟩ := isL I q2
          have hne : a ≠ b := fun z => by subst z; exact dic_list p p2
          simpa [D.eqD] using EqAt.of_refs hne (RcAt_dict_list p p2 hne (by omega))
        · by_cases hab : a = b
          · subst hab; simpa [D.eqD] using EqAt.same (A := A) (s := s) (.ref a)
          · simpa [D.eqD] using EqAt.of_refs hab (rcAt_dics I q q2.2 (by omega))
    cases n with
    | zero => simp [D.okE, hk] at hn
    | succ n =>
    simp only [D.okE, Bool.and_eq_true, Bool.or_eq_true, decide_eq_true_eq, hk, false_and, false_or] at hn
    have hu1 : (A.in1).units + n + 1 < cLine := by show A.units + 1 + n + 1 < cLine; omega
    rcases q with ⟨rfl, q⟩ | ⟨rfl, q⟩ | ⟨rfl, _⟩
    · obtain ⟨its, r, p⟩ := isT I q
      cases e with
      | non => simp only [Vr] at he; subst he; cases ry; simpa [D.eqD] using EqAt.tuple_none (A := A) p (by omega)
      | bl b => simp only [Vr] at he; subst he; cases ry; simpa [D.eqD] using EqAt.tuple_bool (A := A) b p (by omega)
      | int b => simp only [Vr] at he; subst he; obtain ⟨tt, rfl⟩ := ry; simpa [D.eqD] using EqAt.tuple_int (A := A) b tt p (by omega)
      | str b => simp only [Vr] at he; subst he; obtain ⟨tt, rfl⟩ := ry; simpa [D.eqD] using EqAt.tuple_str (A := A) (cps b) tt p (by omega)
      | cell n => simp [Vr] at he
      | node o2 k2 ys =>
        have he0 := he
        simp only [Vr] at he
        obtain ⟨b, us, rfl, q2, t2⟩ := he
        cases ry
        rcases q2 with ⟨rfl, q2⟩ | ⟨rfl, q2⟩ | ⟨rfl, q2⟩
        · obtain ⟨its2, r2, p2⟩ := isT I q2
          by_cases hab : a = b
          · subst hab
            rw [vr_same I hd0 he0]
            exact EqAt.same _
          · have n1 : its.length = xs.length := by rw [← r.length, ← t.len]
            have n2 : its2.length = ys.length := by rw [← r2.length, ← t2.len]
            simp only [D.eqD]
            rw [← eqL_all xs ys, ← n1, ← n2]
            have := EqAt.of_refs hab (RcAt.tuples (A := A) p p2 (by omega) (e := pairD xs ys) fun j j1 j2 => by
              have := vrL_eq I xs ys n A.in1 j hn.2 t t2 r r2 hu1 (by simpa using j1) (by simpa using j2)
              simpa using this)
            simpa using this
        · obtain ⟨its2, r2, p2⟩ := isL I q2
          simpa [D.eqD] using EqAt.tuple_list (A := A) p p2 (by omega)
        · have p2 := isE I q2.2
          have hne : b ≠ a := fun z => by subst z; exact dic_tup p2 p
          simpa [D.eqD] using EqAt.of_refs (Ne.symm hne) (RcAt_tuple_dict p2 p hne (by omega))
    · obtain ⟨its, r, p⟩ := isL I q
      cases e with
      | non => simp only [Vr] at he; subst he; cases ry; simpa [D.eqD] using EqAt.list_none (A := A) p (by omega)
      | bl b => simp only [Vr] at he; subst he; cases ry; simpa [D.eqD] using EqAt.list_bool (A := A) b p (by omega)
      | int b => simp only [Vr] at he; subst he; obtain ⟨tt, rfl⟩ := ry; simpa [D.eqD] using EqAt.list_int (A := A) b tt p (by omega)
      | str b => simp only [Vr] at he; subst he; obtain ⟨tt, rfl⟩ := ry; simpa [D.eqD] using EqAt.list_str (A := A) (cps b) tt p (by omega)
      | cell n => simp [Vr] at he
      | node o2 k2 ys =>
        have he0 := he
        simp only [Vr] at he
        obtain ⟨b, us, rfl, q2, t2⟩ := he
        cases ry
        rcases q2 with ⟨rfl, q2⟩ | ⟨rfl, q2⟩ | ⟨rfl, q2⟩
        · obtain ⟨its2, r2, p2⟩ := isT I q2
          simpa [D.eqD] using EqAt.list_tuple (A := A) p p2 (by omega)
        · obtain ⟨its2, r2, p2⟩ := isL I q2
          by_cases hab : a = b
          · subst hab
            rw [vr_same I hd0 he0]
            exact EqAt.same _
          · have n1 : its.length = xs.length := by rw [← r.length, ← t.len]
            have n2 : its2.length = ys.length := by rw [← r2.length, ← t2.len]
            simp only [D.eqD]
            by_cases hsz : xs.length = ys.length
            · rw [← eqL_same hsz, ← n1]
              have := EqAt.of_refs hab (RcAt.lists (A := A) p p2 (by simp; omega) (by omega) (e := pairD xs ys) fun j j1 j2 => by
                have := vrL_eq I xs ys n A.in1 j hn.2 t t2 r r2 hu1 (by simpa using j1) (by simpa using j2)
                simpa using this)
              simpa using this
            · rw [eqL_len hsz]
              exact EqAt.of_refs hab (RcAt.lists_lengths p p2 (by simp; omega) (by omega))
        · have p2 := isE I q2.2
          have hne : b ≠ a := fun z => by subst z; exact dic_list p2 p
          simpa [D.eqD] using EqAt.of_refs (Ne.symm hne) (RcAt_list_dict p2 p hne (by omega))
    · exact absurd rfl hk
theorem vrL_eq (I : Inv X pins σ H s) : ∀ (xs ys : List D) (n : Nat) (A : Around) (j : Nat) {vs us : List V} {its its2 : List Value}, D.okEL n xs = true → VrL X.K H xs vs → VrL X.K H ys us → Vals vs its → Vals us its2 → A.units + n + 1 < cLine →
    ∀ (h1 : j < its.length) (h2 : j < its2.length), EqAt A s its[j] its2[j] (pairD xs ys j)
  | [], ys, n, A, j, vs, us, its, its2, _, h, k, r, r2, _, h1, h2 => by
    simp only [VrL] at h; subst h; cases r; exact absurd h1 (Nat.not_lt_zero _)
  | x :: xs, [], n, A, j, vs, us, its, its2, _, h, k, r, r2, _, h1, h2 => by
    simp only [VrL] at k; subst k; cases r2; exact absurd h2 (Nat.not_lt_zero _)
  | x :: xs, y :: ys, n, A, j, vs, us, its, its2, hn, h, k, r, r2, hu, h1, h2 => by
    simp only [D.okEL, Bool.and_eq_true] at hn
    simp only [VrL] at h k
    obtain ⟨v, rv, rfl, q, t⟩ := h
    obtain ⟨v2, rv2, rfl, q2, t2⟩ := k
    cases r with
    | cons ra rr =>
      cases r2 with
      | cons ra2 rr2 =>
        cases j with
        | zero =>
          have := vr_eq I x y n A hn.1 q q2 ra ra2 hu
          simpa [pairD] using this
        | succ j =>
          have := vrL_eq I xs ys n A j hn.2 t t2 rr rr2 hu (Nat.lt_of_succ_lt_succ h1) (Nat.lt_of_succ_lt_succ h2)
          simpa [pairD] using this
end
theorem vr_rc (I : Inv X pins σ H s) : ∀ (d e : D) (n : Nat) (A : Around) {x y : V} {u v : Value}, D.okE n d = true → Vr X.K H d x → Vr X.K H e y → RelV x u → RelV y v → A.units + n + 1 < cLine → RcAt A s u v (D.eqD d e)
  | .non, e, n, A, x, y, u, v, _, hd, he, rx, ry, hu => by
    simp only [Vr] at hd; subst hd; cases rx
    cases e with
    | non =>
      simp only [Vr] at he; subst he; cases ry
      simpa [D.eqD] using (RcAt.none_none (A := A) (s := s))
    | bl b =>
      simp only [Vr] at he; subst he; cases ry
      simpa [D.eqD] using RcAt.none_bool (A := A) (s := s)  b
    | int b =>
      simp only [Vr] at he; subst he; obtain ⟨t, rfl⟩ := ry
      simpa [D.eqD] using RcAt.none_int (A := A) (s := s)  b t
    | str b =>
      simp only [Vr] at he; subst he; obtain ⟨t, rfl⟩ := ry
      simpa [D.eqD] using RcAt.none_str (A := A) (s := s)  (cps b) t
    | cell n => simp [Vr] at he
    | node o k ys =>
      simp only [Vr] at he
      obtain ⟨b, us, rfl, q, t⟩ := he
      cases ry
      rcases q with ⟨rfl, q⟩ | ⟨rfl, q⟩ | ⟨rfl, q⟩
      · obtain ⟨its, r, p⟩ := isT I q; simpa [D.eqD] using RcAt.none_tuple (A := A)  p (by omega)
      · obtain ⟨its, r, p⟩ := isL I q; simpa [D.eqD] using RcAt.none_list (A := A)  p (by omega)
      · simpa [D.eqD] using RcAt_none_dict  (isE I q.2) (by omega)
  | .bl c, e, n, A, x, y, u, v, _, hd, he, rx, ry, hu => by
    simp only [Vr] at hd; subst hd; cases rx
    cases e with
    | non =>
      simp only [Vr] at he; subst he; cases ry
      simpa [D.eqD] using RcAt.bool_none (A := A) (s := s) c 
    | bl b =>
      simp only [Vr] at he; subst he; cases ry
      simpa [D.eqD] using RcAt.bool_bool (A := A) (s := s) c b
    | int b =>
      simp only [Vr] at he; subst he; obtain ⟨t, rfl⟩ := ry
      have z : decide (b2i c = b) = ((if c = true then (1 : Int) else 0) == b) := by cases c <;> simp [b2i, Bool.beq_eq_decide_eq]
      simp only [D.eqD]; rw [z]; exact RcAt.bool_int (A := A) (s := s) c b t
    | str b =>
      simp only [Vr] at he; subst he; obtain ⟨t, rfl⟩ := ry
      simpa [D.eqD] using RcAt.bool_str (A := A) (s := s) c (cps b) t
    | cell n => simp [Vr] at he
    | node o k ys =>
      simp only [Vr] at he
      obtain ⟨b, us, rfl, q, t⟩ := he
      cases ry
      rcases q with ⟨rfl, q⟩ | ⟨rfl, q⟩ | ⟨rfl, q⟩
      · obtain ⟨its, r, p⟩ := isT I q; simpa [D.eqD] using RcAt.bool_tuple (A := A) c p (by omega)
      · obtain ⟨its, r, p⟩ := isL I q; simpa [D.eqD] using RcAt.bool_list (A := A) c p (by omega)
      · simpa [D.eqD] using RcAt_bool_dict c (isE I q.2) (by omega)
  | .int c, e, n, A, x, y, u, v, _, hd, he, rx, ry, hu => by
    simp only [Vr] at hd; subst hd; obtain ⟨tt, rfl⟩ := rx
    cases e with
    | non =>
      simp only [Vr] at he; subst he; cases ry
      simpa [D.eqD] using RcAt.int_none (A := A) (s := s) c tt 
    | bl b =>
      simp only [Vr] at he; subst he; cases ry
      have z : decide (c = b2i b) = (c == (if b = true then (1 : Int) else 0)) := by cases b <;> simp [b2i, Bool.beq_eq_decide_eq]
      simp only [D.eqD]; rw [z]; exact RcAt.int_bool (A := A) (s := s) c tt b
    | int b =>
      simp only [Vr] at he; subst he; obtain ⟨t, rfl⟩ := ry
      simpa [D.eqD, Bool.beq_eq_decide_eq] using RcAt.int_int (A := A) (s := s) c tt b t
    | str b =>
      simp only [Vr] at he; subst he; obtain ⟨t, rfl⟩ := ry
      simpa [D.eqD] using RcAt.int_str (A := A) (s := s) c tt (cps b) t
    | cell n => simp [Vr] at he
    | node o k ys =>
      simp only [Vr] at he
      obtain ⟨b, us, rfl, q, t⟩ := he
      cases ry
      rcases q with ⟨rfl, q⟩ | ⟨rfl, q⟩ | ⟨rfl, q⟩
      · obtain ⟨its, r, p⟩ := isT I q; simpa [D.eqD] using RcAt.int_tuple (A := A) c tt p (by omega)
      · obtain ⟨its, r, p⟩ := isL I q; simpa [D.eqD] using RcAt.int_list (A := A) c tt p (by omega)
      · simpa [D.eqD] using RcAt_int_dict c tt (isE I q.2) (by omega)
  | .str c, e, n, A, x, y, u, v, _, hd, he, rx, ry, hu => by
    simp only [Vr] at hd; subst hd; obtain ⟨tt, rfl⟩ := rx
    cases e with
    | non =>
      simp only [Vr] at he; subst he; cases ry
      simpa [D.eqD] using RcAt.str_none (A := A) (s := s) (cps c) tt 
    | bl b =>
      simp only [Vr] at he; subst he; cases ry
      simpa [D.eqD] using RcAt.str_bool (A := A) (s := s) (cps c) tt b
    | int b =>
      simp only [Vr] at he; subst he; obtain ⟨t, rfl⟩ := ry
      simpa [D.eqD] using RcAt.str_int (A := A) (s := s) (cps c) tt b t
    | str b =>
      simp only [Vr] at he; subst he; obtain ⟨t, rfl⟩ := ry
      have z : (cps c == cps b) = decide (c = b) := by
        by_cases q : c = b
        · subst q; simp
        · have : cps c ≠ cps b := fun h => q (cps_inj h)
          rw [decide_eq_false q]; simpa using this
      have := RcAt.str_str (A := A) (s := s) (cps c) tt (cps b) t
      rw [z] at this
      simpa only [D.eqD] using this
    | cell n => simp [Vr] at he
    | node o k ys =>
      simp only [Vr] at he
      obtain ⟨b, us, rfl, q, t⟩ := he
      cases ry
      rcases q with ⟨rfl, q⟩ | ⟨rfl, q⟩ | ⟨rfl, q⟩
      · obtain ⟨its, r, p⟩ := isT I q; simpa [D.eqD] using RcAt.str_tuple (A := A) (cps c) tt p (by omega)
      · obtain ⟨its, r, p⟩ := isL I q; simpa [D.eqD] using RcAt.str_list (A := A) (cps c) tt p (by omega)
      · simpa [D.eqD] using RcAt_str_dict (cps c) tt (isE I q.2) (by omega)
  | .cell _, e, n, A, x, y, u, v, h, _, _, _, _, _ => by simp [D.okE] at h
  | .node o k xs, e, n, A, x, y, u, v, hn, hd, he, rx, ry, hu => by
    simp only [Vr] at hd
    obtain ⟨a, vs, rfl, q, t⟩ := hd
    cases rx
    by_cases hk : k = .dK []
    · subst hk
      rcases q with ⟨z, _⟩ | ⟨z, _⟩ | ⟨_, _, q⟩
      · cases z
      · cases z
      have p := isE I q
      cases e with
      | non => simp only [Vr] at he; subst he; cases ry; simpa [D.eqD] using RcAt_dict_none p (by omega)
      | bl b => simp only [Vr] at he; subst he; cases ry; simpa [D.eqD] using RcAt_dict_bool b p (by omega)
      | int b => simp only [Vr] at he; subst he; obtain ⟨tt, rfl⟩ := ry; simpa [D.eqD] using RcAt_dict_int b tt p (by omega)
      | str b => simp only [Vr] at he; subst he; obtain ⟨tt, rfl⟩ := ry; simpa [D.eqD] using RcAt_dict_str (cps b) tt p (by omega)
      | cell n => simp [Vr] at he
      | node o2 k2 ys =>
        simp only [Vr] at he
        obtain ⟨b, us, rfl, q2, t2⟩ := he
        cases ry
        rcases q2 with ⟨rfl, q2⟩ | ⟨rfl, q2⟩ | ⟨rfl, q2⟩
        · obtain ⟨its2, r2, p2⟩ := isT I q2
          have hne : a ≠ b := fun z => by subst z; exact dic_tup p p2
          simpa [D.eqD] using RcAt_dict_tuple p p2 hne (by omega)
        · obtain ⟨its2, r2, p2⟩ := isL I q2
          have hne : a ≠ b := fun z => by subst z; exact dic_list p p2
          simpa [D.eqD] using RcAt_dict_list p p2 hne (by omega)
        · simpa [D.eqD] using rcAt_dics I q q2.2 (by omega)
    cases n with
    | zero => simp [D.okE, hk] at hn
    | succ n =>
    simp only [D.okE, Bool.and_eq_true, Bool.or_eq_true, decide_eq_true_eq, hk, false_and, false_or] at hn
    have hu1 : (A.in1).units + n + 1 < cLine := by show A.units + 1 + n + 1 < cLine; omega
    rcases q with ⟨rfl, q⟩ | ⟨rfl, q⟩ | ⟨rfl, _⟩
    · obtain ⟨its, r, p⟩ := isT I q
      cases e with
      | non => simp only [Vr] at he; subst he; cases ry; simpa [D.eqD] using RcAt.tuple_none (A := A)  p (by omega)
      | bl b => simp only [Vr] at he; subst he; cases ry; simpa [D.eqD] using RcAt.tuple_bool (A := A) b p (by omega)
      | int b => simp only [Vr] at he; subst he; obtain ⟨t, rfl⟩ := ry; simpa [D.eqD] using RcAt.tuple_int (A := A) b t p (by omega)
      | str b => simp only [Vr] at he; subst he; obtain ⟨t, rfl⟩ := ry; simpa [D.eqD] using RcAt.tuple_str (A := A) (cps b) t p (by omega)
      | cell n => simp [Vr] at he
      | node o2 k2 ys =>
        simp only [Vr] at he
        obtain ⟨b, us, rfl, q2, t2⟩ := he
        cases ry
        rcases q2 with ⟨rfl, q2⟩ | ⟨rfl, q2⟩ | ⟨rfl, q2⟩
        · obtain ⟨its2, r2, p2⟩ := isT I q2
          have n1 : its.length = xs.length := by rw [← r.length, ← t.len]
          have n2 : its2.length = ys.length := by rw [← r2.length, ← t2.len]
          simp only [D.eqD]
          rw [← eqL_all xs ys, ← n1, ← n2]
          have := RcAt.tuples (A := A) p p2 (by omega) (e := pairD xs ys) fun j j1 j2 => by
              have := vrL_eq I xs ys n A.in1 j hn.2 t t2 r r2 hu1 (by simpa using j1) (by simpa using j2)
              simpa using this
          simpa using this
        · obtain ⟨its2, r2, p2⟩ := isL I q2
          simpa [D.eqD] using RcAt.tuple_list (A := A) p p2 (by omega)
        · have p2 := isE I q2.2
          have hne : b ≠ a := fun z => by subst z; exact dic_tup p2 p
          simpa [D.eqD] using RcAt_tuple_dict p2 p hne (by omega)
    · obtain ⟨its, r, p⟩ := isL I q
      cases e with
      | non => simp only [Vr] at he; subst he; cases ry; simpa [D.eqD] using RcAt.list_none (A := A)  p (by omega)
      | bl b => simp only [Vr] at he; subst he; cases ry; simpa [D.eqD] using RcAt.list_bool (A := A) b p (by omega)
      | int b => simp only [Vr] at he; subst he; obtain ⟨t, rfl⟩ := ry; simpa [D.eqD] using RcAt.list_int (A := A) b t p (by omega)
      | str b => simp only [Vr] at he; subst he; obtain ⟨t, rfl⟩ := ry; simpa [D.eqD] using RcAt.list_str (A := A) (cps b) t p (by omega)
      | cell n => simp [Vr] at he
      | node o2 k2 ys =>
        simp only [Vr] at he
        obtain ⟨b, us, rfl, q2, t2⟩ := he
        cases ry
        rcases q2 with ⟨rfl, q2⟩ | ⟨rfl, q2⟩ | ⟨rfl, q2⟩
        · obtain ⟨its2, r2, p2⟩ := isT I q2
          simpa [D.eqD] using RcAt.list_tuple (A := A) p p2 (by omega)
        · obtain ⟨its2, r2, p2⟩ := isL I q2
          have n1 : its.length = xs.length := by rw [← r.length, ← t.len]
          have n2 : its2.length = ys.length := by rw [← r2.length, ← t2.len]
          simp only [D.eqD]
          by_cases hsz : xs.length = ys.length
          · rw [← eqL_same hsz, ← n1]
            have := RcAt.lists (A := A) p p2 (by simp; omega) (by omega) (e := pairD xs ys) fun j j1 j2 => by
                have := vrL_eq I xs ys n A.in1 j hn.2 t t2 r r2 hu1 (by simpa using j1) (by simpa using j2)
                simpa using this
            simpa using this
          · rw [eqL_len hsz]
            exact RcAt.lists_lengths p p2 (by simp; omega) (by omega)
        · have p2 := isE I q2.2
          have hne : b ≠ a := fun z => by subst z; exact dic_list p2 p
          simpa [D.eqD] using RcAt_list_dict p2 p hne (by omega)
    · exact absurd rfl hk
theorem vr_ne (I : Inv X pins σ H s) : ∀ (d e : D) (n : Nat) (A : Around) {x y : V} {u v : Value}, D.okE n d = true → Vr X.K H d x → Vr X.K H e y → RelV x u → RelV y v → A.units + n + 1 < cLine → RcNeAt A s u v (!D.eqD d e)
  | .non, e, n, A, x, y, u, v, _, hd, he, rx, ry, hu => by
    simp only [Vr] at hd; subst hd; cases rx
    cases e with
    | non =>
      simp only [Vr] at he; subst he; cases ry
      simpa [D.eqD] using (RcNeAt.none_none (A := A) (s := s))
    | bl b =>
      simp only [Vr] at he; subst he; cases ry
      simpa [D.eqD] using RcNeAt.none_bool (A := A) (s := s)  b
    | int b =>
      simp only [Vr] at he; subst he; obtain ⟨t, rfl⟩ := ry
      simpa [D.eqD] using RcNeAt.none_int (A := A) (s := s)  b t
    | str b =>
      simp only [Vr] at he; subst he; obtain ⟨t, rfl⟩ := ry
      simpa [D.eqD] using RcNeAt.none_str (A := A) (s := s)  (cps b) t
    | cell n => simp [Vr] at he
    | node o k ys =>
      simp only [Vr] at he
      obtain ⟨b, us, rfl, q, t⟩ := he
      cases ry
      rcases q with ⟨rfl, q⟩ | ⟨rfl, q⟩ | ⟨rfl, q⟩
      · obtain ⟨its, r, p⟩ := isT I q; simpa [D.eqD] using RcNeAt.none_tuple (A := A)  p (by omega)
      · obtain ⟨its, r, p⟩ := isL I q; simpa [D.eqD] using RcNeAt.none_list (A := A)  p (by omega)
      · simpa [D.eqD] using RcNeAt_none_dict  (isE I q.2) (by omega)
  | .bl c, e, n, A, x, y, u, v, _, hd, he, rx, ry, hu => by
    simp only [Vr] at hd; subst hd; cases rx
    cases e with
    | non =>
      simp only [Vr] at he; subst he; cases ry
      simpa [D.eqD] using RcNeAt.bool_none (A := A) (s := s) c 
    | bl b =>
      simp only [Vr] at he; subst he; cases ry
      simpa [D.eqD] using RcNeAt.bool_bool (A := A) (s := s) c b
    | int b =>
      simp only [Vr] at he; subst he; obtain ⟨t, rfl⟩ := ry
      have z : decide (b2i c = b) = ((if c = true then (1 : Int) else 0) == b) := by cases c <;> simp [b2i, Bool.beq_eq_decide_eq]
      simp only [D.eqD]; rw [z]; exact RcNeAt.bool_int (A := A) (s := s) c b t
    | str b =>
      simp only [Vr] at he; subst he; obtain ⟨t, rfl⟩ := ry
      simpa [D.eqD] using RcNeAt.bool_str (A := A) (s := s) c (cps b) t
    | cell n => simp [Vr] at he
    | node o k ys =>
      simp only [Vr] at he
      obtain ⟨b, us, rfl, q, t⟩ := he
      cases ry
      rcases q with ⟨rfl, q⟩ | ⟨rfl, q⟩ | ⟨rfl, q⟩
      · obtain ⟨its, r, p⟩ := isT I q; simpa [D.eqD] using RcNeAt.bool_tuple (A := A) c p (by omega)
      · obtain ⟨its, r, p⟩ := isL I q; simpa [D.eqD] using RcNeAt.bool_list (A := A) c p (by omega)
      · simpa [D.eqD] using RcNeAt_bool_dict c (isE I q.2) (by omega)
  | .int c, e, n, A, x, y, u, v, _, hd, he, rx, ry, hu => by
    simp only [Vr] at hd; subst hd; obtain ⟨tt, rfl⟩ := rx
    cases e with
    | non =>
      simp only [Vr] at he; subst he; cases ry
      simpa [D.eqD] using RcNeAt.int_none (A := A) (s := s) c tt 
    | bl b =>
      simp only [Vr] at he; subst he; cases ry
      have z : decide (c = b2i b) = (c == (if b = true then (1 : Int) else 0)) := by cases b <;> simp [b2i, Bool.beq_eq_decide_eq]
      simp only [D.eqD]; rw [z]; exact RcNeAt.int_bool (A := A) (s := s) c tt b
    | int b =>
      simp only [Vr] at he; subst he; obtain ⟨t, rfl⟩ := ry
      simpa [D.eqD, Bool.beq_eq_decide_eq] using RcNeAt.int_int (A := A) (s := s) c tt b t
    | str b =>
      simp only [Vr] at he; subst he; obtain ⟨t, rfl⟩ := ry
      simpa [D.eqD] using RcNeAt.int_str (A := A) (s := s) c tt (cps b) t
    | cell n => simp [Vr] at he
    | node o k ys =>
      simp only [Vr] at he
      obtain ⟨b, us, rfl, q, t⟩ := he
      cases ry
      rcases q with ⟨rfl, q⟩ | ⟨rfl, q⟩ | ⟨rfl, q⟩
      · obtain ⟨its, r, p⟩ := isT I q; simpa [D.eqD] using RcNeAt.int_tuple (A := A) c tt p (by omega)
      · obtain ⟨its, r, p⟩ := isL I q; simpa [D.eqD] using RcNeAt.int_list (A := A) c tt p (by omega)
      · simpa [D.eqD] using RcNeAt_int_dict c tt (isE I q.2) (by omega)
  | .str c, e, n, A, x, y, u, v, _, hd, he, rx, ry, hu => by
    simp only [Vr] at hd; subst hd; obtain ⟨tt, rfl⟩ := rx
    cases e with
    | non =>
      simp only [Vr] at he; subst he; cases ry
      simpa [D.eqD] using RcNeAt.str_none (A := A) (s := s) (cps c) tt 
    | bl b =>
      simp only [Vr] at he; subst he; cases ry
      simpa [D.eqD] using RcNeAt.str_bool (A := A) (s := s) (cps c) tt b
    | int b =>
      simp only [Vr] at he; subst he; obtain ⟨t, rfl⟩ := ry
      simpa [D.eqD] using RcNeAt.str_int (A := A) (s := s) (cps c) tt b t
    | str b =>
      simp only [Vr] at he; subst he; obtain ⟨t, rfl⟩ := ry
      have z : (cps c == cps b) = decide (c = b) := by
        by_cases q : c = b
        · subst q; simp
        · have : cps c ≠ cps b := fun h => q (cps_inj h)
          rw [decide_eq_false q]; simpa using this
      have := RcNeAt.str_str (A := A) (s := s) (cps c) tt (cps b) t
      rw [z] at this
      simpa only [D.eqD] using this
    | cell n => simp [Vr] at he
    | node o k ys =>
      simp only [Vr] at he
      obtain ⟨b, us, rfl, q, t⟩ := he
      cases ry
      rcases q with ⟨rfl, q⟩ | ⟨rfl, q⟩ | ⟨rfl, q⟩
      · obtain ⟨its, r, p⟩ := isT I q; simpa [D.eqD] using RcNeAt.str_tuple (A := A) (cps c) tt p (by omega)
      · obtain ⟨its, r, p⟩ := isL I q; simpa [D.eqD] using RcNeAt.str_list (A := A) (cps c) tt p (by omega)
      · simpa [D.eqD] using RcNeAt_str_dict (cps c) tt (isE I q.2) (by omega)
  | .cell _, e, n, A, x, y, u, v, h, _, _, _, _, _ => by simp [D.okE] at h
  | .node o k xs, e, n, A, x, y, u, v, hn, hd, he, rx, ry, hu => by
    simp only [Vr] at hd
    obtain ⟨a, vs, rfl, q, t⟩ := hd
    cases rx
    by_cases hk : k = .dK []
    · subst hk
      rcases q with ⟨z, _⟩ | ⟨z, _⟩ | ⟨_, _, q⟩
      · cases z
      · cases z
      have p := isE I q
      cases e with
      | non => simp only [Vr] at he; subst he; cases ry; simpa [D.eqD] using RcNeAt_dict_none p (by omega)
      | bl b => simp only [Vr] at he; subst he; cases ry; simpa [D.eqD] using RcNeAt_dict_bool b p (by omega)
      | int b => simp only [Vr] at he; subst he; obtain ⟨tt, rfl⟩ := ry; simpa [D.eqD] using RcNeAt_dict_int b tt p (by omega)
      | str b => simp only [Vr] at he; subst he; obtain ⟨tt, rfl⟩ := ry; simpa [D.eqD] using RcNeAt_dict_str (cps b) tt p (by omega)
      | cell n => simp [Vr] at he
      | node o2 k2 ys =>
        simp only [Vr] at he
        obtain ⟨b, us, rfl, q2, t2⟩ := he
        cases ry
        rcases q2 with ⟨rfl, q2⟩ | ⟨rfl, q2⟩ | ⟨rfl, q2⟩
        · obtain ⟨its2, r2, p2⟩ := isT I q2
          have hne : a ≠ b := fun z => by subst z; exact dic_tup p p2
          simpa [D.eqD] using RcNeAt_dict_tuple p p2 hne (by omega)
        · obtain ⟨its2, r2, p2⟩ := isL I q2
          have hne : a ≠ b := fun z => by subst z; exact dic_list p p2
          simpa [D.eqD] using RcNeAt_dict_list p p2 hne (by omega)
        · simpa [D.eqD] using rcNe_dics I q q2.2 (by omega)
    cases n with
    | zero => simp [D.okE, hk] at hn
    | succ n =>
    simp only [D.okE, Bool.and_eq_true, Bool.or_eq_true, decide_eq_true_eq, hk, false_and, false_or] at hn
    have hu1 : (A.in1).units + n + 1 < cLine := by show A.units + 1 + n + 1 < cLine; omega
    rcases q with ⟨rfl, q⟩ | ⟨rfl, q⟩ | ⟨rfl, _⟩
    · obtain ⟨its, r, p⟩ := isT I q
      cases e with
      | non => simp only [Vr] at he; subst he; cases ry; simpa [D.eqD] using RcNeAt.tuple_none (A := A)  p (by omega)
      | bl b => simp only [Vr] at he; subst he; cases ry; simpa [D.eqD] using RcNeAt.tuple_bool (A := A) b p (by omega)
      | int b => simp only [Vr] at he; subst he; obtain ⟨t, rfl⟩ := ry; simpa [D.eqD] using RcNeAt.tuple_int (A := A) b t p (by omega)
      | str b => simp only [Vr] at he; subst he; obtain ⟨t, rfl⟩ := ry; simpa [D.eqD] using RcNeAt.tuple_str (A := A) (cps b) t p (by omega)
      | cell n => simp [Vr] at he
      | node o2 k2 ys =>
        simp only [Vr] at he
        obtain ⟨b, us, rfl, q2, t2⟩ := he
        cases ry
        rcases q2 with ⟨rfl, q2⟩ | ⟨rfl, q2⟩ | ⟨rfl, q2⟩
        · obtain ⟨its2, r2, p2⟩ := isT I q2
          have n1 : its.length = xs.length := by rw [← r.length, ← t.len]
          have n2 : its2.length = ys.length := by rw [← r2.length, ← t2.len]
          simp only [D.eqD]
          rw [← eqL_all xs ys, ← n1, ← n2]
          have := RcNeAt.tuples (A := A) p p2 (by omega) (e := pairD xs ys) fun j j1 j2 => by
              have := vrL_eq I xs ys n A.in1 j hn.2 t t2 r r2 hu1 (by simpa using j1) (by simpa using j2)
              simpa using this
          simpa using this
        · obtain ⟨its2, r2, p2⟩ := isL I q2
          simpa [D.eqD] using RcNeAt.tuple_list (A := A) p p2 (by omega)
        · have p2 := isE I q2.2
          have hne : b ≠ a := fun z => by subst z; exact dic_tup p2 p
          simpa [D.eqD] using RcNeAt_tuple_dict p2 p hne (by omega)
    · obtain ⟨its, r, p⟩ := isL I q
      cases e with
      | non => simp only [Vr] at he; subst he; cases ry; simpa [D.eqD] using RcNeAt.list_none (A := A)  p (by omega)
      | bl b => simp only [Vr] at he; subst he; cases ry; simpa [D.eqD] using RcNeAt.list_bool (A := A) b p (by omega)
      | int b => simp only [Vr] at he; subst he; obtain ⟨t, rfl⟩ := ry; simpa [D.eqD] using RcNeAt.list_int (A := A) b t p (by omega)
      | str b => simp only [Vr] at he; subst he; obtain ⟨t, rfl⟩ := ry; simpa [D.eqD] using RcNeAt.list_str (A := A) (cps b) t p (by omega)
      | cell n => simp [Vr] at he
      | node o2 k2 ys =>
        simp only [Vr] at he
        obtain ⟨b, us, rfl, q2, t2⟩ := he
        cases ry
        rcases q2 with ⟨rfl, q2⟩ | ⟨rfl, q2⟩ | ⟨rfl, q2⟩
        · obtain ⟨its2, r2, p2⟩ := isT I q2
          simpa [D.eqD] using RcNeAt.list_tuple (A := A) p p2 (by omega)
        · obtain ⟨its2, r2, p2⟩ := isL I q2
          have n1 : its.length = xs.length := by rw [← r.length, ← t.len]
          have n2 : its2.length = ys.length := by rw [← r2.length, ← t2.len]
          simp only [D.eqD]
          by_cases hsz : xs.length = ys.length
          · rw [← eqL_same hsz, ← n1]
            have := RcNeAt.lists (A := A) p p2 (by simp; omega) (by omega) (e := pairD xs ys) fun j j1 j2 => by
                have := vrL_eq I xs ys n A.in1 j hn.2 t t2 r r2 hu1 (by simpa using j1) (by simpa using j2)
                simpa using this
            simpa using this
          · rw [eqL_len hsz]
            exact RcNeAt.lists_lengths p p2 (by simp; omega) (by omega)
        · have p2 := isE I q2.2
          have hne : b ≠ a := fun z => by subst z; exact dic_list p2 p
          simpa [D.eqD] using RcNeAt_list_dict p2 p hne (by omega)
    · exact absurd rfl hk
/-! ### what an operator of two things is to give, a truth -/
mutual
theorem eqD_frz : ∀ (d x : D), D.eqD d.frz x = D.eqD d x
  | .non, x => by simp [D.frz]
  | .bl b, x => by simp [D.frz]
  | .int b, x => by simp [D.frz]
  | .str b, x => by simp [D.frz]
  | .cell b, x => by simp [D.frz]
  | .node o k xs, x => by
    simp only [D.frz]
    cases x with
    | node o2 k2 ys =>
      cases k <;> cases k2 <;> simp only [D.eqD]
      · exact eqL_frz xs ys
      · exact eqL_frz xs ys
    | _ => cases k <;> simp only [D.eqD]
theorem eqL_frz : ∀ (xs ys : List D), D.eqL (D.frzL xs) ys = D.eqL xs ys
  | [], ys => by simp [D.frzL]
  | x :: xs, [] => by simp [D.frzL, D.eqL]
  | x :: xs, y :: ys => by simp only [D.frzL, D.eqL, eqD_frz x y, eqL_frz xs ys]
end
mutual
theorem vr_det (I : Inv X pins σ H s) : ∀ {d e : D} {v : V}, Vr X.K H d v → Vr X.K H e v → d.frz = e.frz
  | .non, e, v, h, k => by
    simp only [Vr] at h; subst h
    cases e <;> simp [Vr] at k
    rfl
  | .bl b, e, v, h, k => by
    simp only [Vr] at h; subst h
    cases e <;> simp [Vr] at k
    subst k; rfl
  | .int b, e, v, h, k => by
    simp only [Vr] at h; subst h
    cases e <;> simp [Vr] at k
    subst k; rfl
  | .str b, e, v, h, k => by
    simp only [Vr] at h; subst h
    cases e <;> simp [Vr] at k
    subst k; rfl
  | .cell _, e, v, h, k => by simp [Vr] at h
  | .node o kn xs, e, v, h, k => by
    simp only [Vr] at h
    obtain ⟨a, vs, rfl, q, t⟩ := h
    cases e with
    | node o2 kn2 ys =>
      simp only [Vr] at k
      obtain ⟨b, us, e, q2, t2⟩ := k
      cases e
      rcases q with ⟨rfl, q⟩ | ⟨rfl, q⟩ | ⟨rfl, rfl, q⟩
      · rcases q2 with ⟨rfl, q2⟩ | ⟨rfl, q2⟩ | ⟨rfl, rfl, q2⟩
        · have := I.tuple_inj q q2
          subst this
          simp only [D.frz]
          rw [vrL_det I t t2]
        · obtain ⟨its, r, ⟨o, e, c, _⟩, _⟩ := I.tuple q
          obtain ⟨its2, r2, ⟨o2, n2, e2, c2, _⟩, _⟩ := I.list q2
          rw [e] at e2; cases e2; rw [c] at c2; injection c2 with c3; exact absurd c3 (by decide)
        · obtain ⟨its, r, p⟩ := isT I q; exact (dic_tup (isE I q2) p).elim
      · rcases q2 with ⟨rfl, q2⟩ | ⟨rfl, q2⟩ | ⟨rfl, rfl, q2⟩
        · obtain ⟨its, r, ⟨o, e, c, _⟩, _⟩ := I.tuple q2
          obtain ⟨its2, r2, ⟨o2, n2, e2, c2, _⟩, _⟩ := I.list q
          rw [e] at e2; cases e2; rw [c] at c2; injection c2 with c3; exact absurd c3 (by decide)
        · have := I.list_inj q q2
          subst this
          simp only [D.frz]
          rw [vrL_det I t t2]
        · obtain ⟨its, r, p⟩ := isL I q; exact (dic_list (isE I q2) p).elim
      · rcases q2 with ⟨rfl, q2⟩ | ⟨rfl, q2⟩ | ⟨rfl, rfl, q2⟩
        · obtain ⟨its, r, p⟩ := isT I q2; exact (dic_tup (isE I q) p).elim
        · obtain ⟨its, r, p⟩ := isL I q2; exact (dic_list (isE I q) p).elim
        · simp only [D.frz]; rw [vrL_det I t t2]
    | _ => simp [Vr] at k
theorem vrL_det (I : Inv X pins σ H s) : ∀ {xs ys : List D} {vs : List V}, VrL X.K H xs vs → VrL X.K H ys vs → D.frzL xs = D.frzL ys
  | [], ys, vs, h, k => by
    simp only [VrL] at h; subst h
    cases ys with
    | nil => rfl
    | cons => simp [VrL] at k
  | x :: xs, ys, vs, h, k => by
    simp only [VrL] at h
    obtain ⟨v, r, rfl, q, t⟩ := h
    cases ys with
    | nil => simp [VrL] at k
    | cons y ys =>
      simp only [VrL] at k
      obtain ⟨v2, r2, e, q2, t2⟩ := k
      cases e
      simp only [D.frzL, vr_det I q q2, vrL_det I t t2]
end
open Classical in
/-- whether y, one of a row, equals e -/
noncomputable def eqOf (K : PySem.W.Frag) (H : Hp) (xs : List D) (e : D) (y : Value) : Bool :=
  if h : ∃ d v, d ∈ xs ∧ Vr K H d v ∧ RelV v y then D.eqD (Classical.choose h) e else false
theorem eqOf_is (I : Inv X pins σ H s) {xs : List D} {e d : D} {v : V} {y : Value} (hm : d ∈ xs) (hd : Vr X.K H d v) (r : RelV v y) : eqOf X.K H xs e y = D.eqD d e := by
  have h : ∃ d v, d ∈ xs ∧ Vr X.K H d v ∧ RelV v y := ⟨d, v, hm, hd, r⟩
  unfold eqOf
  rw [dif_pos h]
  obtain ⟨v2, _, h2, r2⟩ := Classical.choose_spec h
  have := r2.inj r
  subst this
  rw [← eqD_frz (Classical.choose h) e, vr_det I h2 hd, eqD_frz]
theorem okE_mem {x : D} {n : Nat} : ∀ {xs : List D}, D.okEL n xs = true → x ∈ xs → D.okE n x = true
  | [], _, h => by cases h
  | y :: ys, e, h => by
    simp only [D.okEL, Bool.and_eq_true] at e
    rcases List.mem_cons.mp h with rfl | h
    · exact e.1
    · exact okE_mem e.2 h
theorem mem_ok (I : Inv X pins σ H s) {A : Around} {e : D} {n : Nat} {x : V} {u : Value} (he : Vr X.K H e x) (rx : RelV x u) (hu : A.units + n + 2 < cLine) (all : List D) (hall : D.okEL n all = true) :
    ∀ {xs : List D} {vs : List V} {its : List Value}, (∀ d ∈ xs, d ∈ all) → VrL X.K H xs vs → Vals vs its → (∀ y ∈ its, EqAt A.in1 s y u (eqOf X.K H all e y)) ∧ its.any (eqOf X.K H all e) = memL e xs
  | [], vs, its, _, h, r => by
    simp only [VrL] at h; subst h; cases r
    exact ⟨(fun _ h => by cases h), (by simp [memL])⟩
  | d :: xs, vs, its, sub, h, r => by
    simp only [VrL] at h
    obtain ⟨v, rv, rfl, q, t⟩ := h
    cases r with
    | cons ra rr =>
      rename_i y ys
      obtain ⟨h1, h2⟩ := mem_ok I he rx hu all hall (xs := xs) (fun z hz => sub z (List.mem_cons_of_mem _ hz)) t rr
      have e1 := eqOf_is (e := e) I (sub d List.mem_cons_self) q ra
      refine ⟨fun z hz => ?_, ?_⟩
      · rcases List.mem_cons.mp hz with rfl | hz
        · rw [e1]
          exact vr_eq I d e n A.in1 (okE_mem hall (sub d List.mem_cons_self)) q he ra rx (by show A.units + 1 + n + 1 < cLine; omega)
        · exact h1 z hz
      · simp only [List.any_cons, memL, e1, h2]
end
end VS
/-! VS10b: a dict and a text are unlike. -/
namespace VS
open PySem PySem.Spec L2 PySem.SeqAt
open PyProof.Rows hiding St
theorem rcNe_dict_str {A : Around} {s : Shared} {l : Addr} {es : Array DictEntry} {n : Nat} {dd : Option Addr} {sl : Array (Option Value)} (b : Str) (u : Tok) (ho : s.heap.get? l = some { cls := .type "dict", dict := dd, data := .dict es n, slots := sl }) (hu : A.units < cLine) : RcNeAt A s (.ref l) (.str b u) true := RcNeAt_dict_str b u ⟨_, _, _, _, ho⟩ hu
end VS
/-! VS11: comparisons. -/
namespace VS
open PySem PySem.Spec L2 PySem.SeqAt
open PyProof.Rows hiding St
section
variable {W : Wd} {F : Cl} {c : Ck} {X : Cx} {E : L2.WX} {w w1 w2 : Wh} {H H1 H2 : Hp} {R Ra Rb : Own} {σ : L2.St} {st : Sg} {Q : VK}
def CopOk (W : Wd) (f : D → D → Option Bool) (r : L2.R2) : Prop :=
  ∀ {w : Wh} {R : Own} {H : Hp} {σ : L2.St} {st : Sg} {da db : D} {x y : V} {k : Bool} {Q : VK}, f da db = some k → SRep W w H σ st → RpA W w R H da x → RpA W w R H db y → Q (.bl k) H → r x y H Q
def rVr (K : PySem.W.Frag) (f : D → D → Bool) : L2.R2 := fun x y H Q => ∃ d e, D.okE 30 d = true ∧ D.okE 30 e = true ∧ Vr K H d x ∧ Vr K H e y ∧ Q (.bl (f d e)) H
theorem op_eqV (hu : X.A.units + 200 < cLine) : OpR X (compareOp .Eq) (rVr X.K D.eqD) := by
  intro pins s σ H x y v u Q I rx ry h
  obtain ⟨d, e, hd, he, h1, h2, q⟩ := h
  exact vr_rc I d e 30 X.A hd h1 h2 rx ry (by omega) X.prog X.w _ _ ⟨.bl _, H, I, rfl, q⟩
theorem op_neV (hu : X.A.units + 200 < cLine) : OpR X (compareOp .NotEq) (rVr X.K fun d e => !D.eqD d e) := by
  intro pins s σ H x y v u Q I rx ry h
  obtain ⟨d, e, hd, he, h1, h2, q⟩ := h
  exact vr_ne I d e 30 X.A hd h1 h2 rx ry (by omega) X.prog X.w _ _ ⟨.bl _, H, I, rfl, q⟩
theorem op_neDS (hu : X.A.units < cLine) : OpR X (compareOp .NotEq) (fun x y H Q => ∃ a kvs z, x = .ref a ∧ y = .str z ∧ Rd H a (.dK kvs) ∧ Q (.bl true) H) := by
  intro pins s σ H x y v u Q I rx ry h
  obtain ⟨a, kvs, z, rfl, rfl, hr, q⟩ := h
  cases rx
  obtain ⟨t, rfl⟩ := ry
  obtain ⟨_, _, vs, _, o, es, ep, h1, h2, h3, _⟩ := (show ObjOk X.prog X.w H s.heap a (.dK kvs) from hr.ok I.hok)
  obtain ⟨oc, od, dt, sl⟩ := o
  obtain ⟨e1, _⟩ := h2
  simp only at e1 h3
  subst e1 h3
  exact rcNe_dict_str z t h1 hu X.prog X.w _ _ ⟨.bl true, H, I, rfl, q⟩
/-- in, a list or a tuple -/
def rInV (K : PySem.W.Frag) (f : Bool → Bool) : L2.R2 := fun x y H Q => ∃ d xs a vs, y = .ref a ∧ (SqT K H a vs ∨ SqL K H a vs) ∧ D.okE 30 d = true ∧ D.okEL 30 xs = true ∧ Vr K H d x ∧ VrL K H xs vs ∧ Q (.bl (f (memL d xs))) H
theorem op_inV (hu : X.A.units + 200 < cLine) : OpR X (compareOp .In) (rInV X.K id) := by
  intro pins s σ H x y v u Q I rx ry h
  obtain ⟨d, xs, a, vs, rfl, sq, hd, hx, h1, h2, q⟩ := h
  cases ry
  rcases sq with sq | sq
  · obtain ⟨its, r, p⟩ := isT I sq
    obtain ⟨k1, k2⟩ := mem_ok I (A := X.A) (n := 30) h1 rx (by omega) xs hx (xs := xs) (fun _ z => z) h2 r
    refine in_tupleAt (eqOf X.K H xs d) p (fun y hy => k1 y (by simpa using hy)) ?_
    have : its.toArray.any (eqOf X.K H xs d) = memL d xs := by simpa using k2
    rw [this]
    exact ⟨.bl _, H, I, rfl, q⟩
  · obtain ⟨its, r, p⟩ := isL I sq
    obtain ⟨k1, k2⟩ := mem_ok I (A := X.A) (n := 30) h1 rx (by omega) xs hx (xs := xs) (fun _ z => z) h2 r
    refine in_listAt (eqOf X.K H xs d) p (fun y hy => k1 y (by simpa using hy)) ?_
    have : its.toArray.any (eqOf X.K H xs d) = memL d xs := by simpa using k2
    rw [this]
    exact ⟨.bl _, H, I, rfl, q⟩
theorem op_notInV (hu : X.A.units + 200 < cLine) : OpR X (compareOp .NotIn) (rInV X.K fun b => !b) := by
  intro pins s σ H x y v u Q I rx ry h
  obtain ⟨d, xs, a, vs, rfl, sq, hd, hx, h1, h2, q⟩ := h
  cases ry
  rcases sq with sq | sq
  · obtain ⟨its, r, p⟩ := isT I sq
    obtain ⟨k1, k2⟩ := mem_ok I (A := X.A) (n := 30) h1 rx (by omega) xs hx (xs := xs) (fun _ z => z) h2 r
    refine notIn_tupleAt (eqOf X.K H xs d) p (fun y hy => k1 y (by simpa using hy)) ?_
    have : its.toArray.any (eqOf X.K H xs d) = memL d xs := by simpa using k2
    rw [this]
    exact ⟨.bl _, H, I, rfl, q⟩
  · obtain ⟨its, r, p⟩ := isL I sq
    obtain ⟨k1, k2⟩ := mem_ok I (A := X.A) (n := 30) h1 rx (by omega) xs hx (xs := xs) (fun _ z => z) h2 r
    refine notIn_listAt (eqOf X.K H xs d) p (fun y hy => k1 y (by simpa using hy)) ?_
    have : its.toArray.any (eqOf X.K H xs d) = memL d xs := by simpa using k2
    rw [this]
    exact ⟨.bl _, H, I, rfl, q⟩
/-- in, a dict -/
def rInD (f : Bool → Bool) : L2.R2 := fun x y H Q => ∃ a o, y = .ref a ∧ DGet H a x o ∧ Q (.bl (f o.isSome)) H
theorem op_inDict (hu : X.A.units + 200 < cLine) : OpR X (compareOp .In) (rInD id) := by
  intro pins s σ H x y v u Q I rx ry h
  obtain ⟨a, o, rfl, g, q⟩ := h
  cases ry
  exact d_in (by omega) I g rx fun s3 I3 => ⟨.bl _, H, I3, rfl, q⟩
theorem op_notInDict (hu : X.A.units + 200 < cLine) : OpR X (compareOp .NotIn) (rInD fun b => !b) := by
  intro pins s σ H x y v u Q I rx ry h
  obtain ⟨a, o, rfl, g, q⟩ := h
  cases ry
  exact d_notIn (by omega) I g rx fun s3 I3 => ⟨.bl _, H, I3, rfl, q⟩
theorem keyK_inj {a b : KA} (h : keyK a = keyK b) : a = b := by
  cases a <;> cases b <;> simp [keyK] at h
  · rw [h]
  · rw [h]
theorem keyA_rep {d : D} {k : KA} {x : V} (e : keyA d = some k) (h : RpA W w R H d x) : x = kV (keyK k) := by
  cases d <;> simp [keyA] at e
  · subst e; exact h.int
  · subst e; exact h.str
theorem keyAs_rep : ∀ {xs : List D} {ks : List KA} {vs : List V}, keyAs xs = some ks → RpAL W w R H xs vs → vs = (ks.map keyK).map kV
  | [], ks, vs, e, h => by
    simp only [RpAL] at h; subst h
    simp only [keyAs, Option.some.injEq] at e; subst e; rfl
  | x :: xs, ks, vs, e, h => by
    simp only [RpAL] at h
    obtain ⟨v, s, rfl, q, t⟩ := h
    simp only [keyAs] at e
    cases e1 : keyA x with
    | none => rw [e1] at e; cases e
    | some k =>
      rw [e1] at e
      cases e2 : keyAs xs with
      | none => rw [e2] at e; cases e
      | some ks' =>
        rw [e2] at e
        simp only [Option.bind_some, Option.some.injEq] at e
        subst e
        simp only [List.map_cons]
        rw [keyA_rep e1 q, keyAs_rep e2 t]
/-- a key's look-up, by data -/
theorem find_rep {κ κ' : Type} [DecidableEq κ] [DecidableEq κ'] (g : κ → κ') (inj : ∀ a b, g a = g b → a = b) (k : κ) : ∀ {ks : List κ} {xs : List D} {vs : List V}, ks.length = vs.length → RpAL W w R H xs vs →
    match findK k ks xs with
    | some d => ∃ v, valV (zipK (ks.map g) vs) (g k) = some v ∧ RpA W w R H d v
    | none => valV (zipK (ks.map g) vs) (g k) = none
  | [], xs, vs, e, h => by
    cases xs <;> simp [findK, zipK, valV]
  | j :: js, xs, vs, e, h => by
    cases xs with
    | nil => simp only [RpAL] at h; subst h; simp at e
    | cons x xs =>
      simp only [RpAL] at h
      obtain ⟨v, s, rfl, q, t⟩ := h
      simp only [findK]
      by_cases hj : j = k
      · rw [if_pos hj]
        exact ⟨v, by rw [List.map_cons, zipK, valV_pos (by simp [hj])], q⟩
      · rw [if_neg hj]
        have hg : ¬ g j = g k := fun z => hj (inj _ _ z)
        have ih := find_rep g inj k (ks := js) (xs := xs) (vs := s) (by simpa using e) t
        rw [List.map_cons, zipK, valV_neg (by simpa using hg)]
        exact ih
theorem mapK_inj : ∀ (a b : List KA), a.map keyK = b.map keyK → a = b
  | [], [], _ => rfl
  | [], _ :: _, h => by simp at h
  | _ :: _, [], h => by simp at h
  | x :: a, y :: b, h => by
    simp only [List.map_cons, List.cons.injEq] at h
    rw [keyK_inj h.1, mapK_inj a b h.2]
/-- d[k] -/
theorem dget_rep {ks : List KA} {xs : List D} {o : Bool} {a : V} {kd : D} {k : KA} {x : V} (s : SRep W w H σ st) (e : keyA kd = some k) (hd : RpA W w R H (.dK o ks xs) a) (hk : RpA W w R H kd x) :
    ∃ p r, a = .ref p ∧ DGet H p x r ∧ match findK k ks xs with
      | some d => ∃ v, r = some v ∧ RpA W w R H d v
      | none => r = none := by
  obtain ⟨p, vs, rfl, ⟨ho, hr, hm⟩, la⟩ := hd.node s.sle
  obtain ⟨rfl, hl, _⟩ := hm
  have := find_rep (R := R) keyK (fun _ _ => keyK_inj) k hl la
  refine ⟨p, _, rfl, .inl ⟨_, keyK k, hr.1, keyA_rep e hk, rfl⟩, ?_⟩
  revert this
  cases findK k ks xs with
  | some d => exact fun this => this
  | none => exact fun this => this
theorem dgetT_rep {ks : List (List KA)} {xs : List D} {o : Bool} {a : V} {kd : D} {k : List KA} {x : V} (s : SRep W w H σ st) (e : keyT kd = some k) (hd : RpA W w R H (.dT o ks xs) a) (hk : RpA W w R H kd x) :
    ∃ p r, a = .ref p ∧ DGet H p x r ∧ match findK k ks xs with
      | some d => ∃ v, r = some v ∧ RpA W w R H d v
      | none => r = none := by
  obtain ⟨p, vs, rfl, ⟨ho, hr, hm⟩, la⟩ := hd.node s.sle
  obtain ⟨rfl, hl, _⟩ := hm
  have key : ∃ b, x = .ref b ∧ H b = some (.tup ((k.map keyK).map kV)) := by
    unfold keyT at e
    split at e
    · obtain ⟨b, us, rfl, rb, lb⟩ := hk.node s.sle
      refine ⟨b, rfl, ?_⟩
      rw [← keyAs_rep e lb]
      exact rb.tup'
    · cases e
  obtain ⟨b, rfl, hb⟩ := key
  have := find_rep (R := R) (fun k : List KA => k.map keyK) mapK_inj k hl la
  refine ⟨p, _, rfl, .inr ⟨_, k.map keyK, b, hr.1, rfl, hb, rfl⟩, ?_⟩
  revert this
  cases findK k ks xs with
  | some d => exact fun this => this
  | none => exact fun this => this
/-! ### things that are surely equal -/
/-- two dicts of the same keys whose things are G -/
def EqWD (H : Hp) (G : V → V → Prop) (x y : V) : Prop := ∃ a b ks ls, x = .ref a ∧ y = .ref b ∧ Rd H a (.dK ks) ∧ Rd H b (.dK ls) ∧ ks.length = ls.length ∧ ∀ p ∈ ks, ∃ u, valV ls p.1 = some u ∧ G p.2 u
def EqWR (K : PySem.W.Frag) (H : Hp) (G : V → V → Prop) (x y : V) : Prop :=
  (∃ a b xs ys, x = .ref a ∧ y = .ref b ∧ SqL K H a xs ∧ SqL K H b ys ∧ Paired G xs ys) ∨ EqWD H G x y
def EqW (K : PySem.W.Frag) (H : Hp) : Nat → V → V → Prop
  | 0 => fun x y => x = y ∧ flatB x = true
  | n + 1 => fun x y => (x = y ∧ flatB x = true) ∨ EqWR K H (EqW K H n) x y
theorem eqWR_refs {K : PySem.W.Frag} {G : V → V → Prop} {x y : V} (h : EqWR K H G x y) : ∃ a b, x = .ref a ∧ y = .ref b := by
  rcases h with ⟨a, b, _, _, z1, z2, _⟩ | ⟨a, b, _, _, z1, z2, _⟩ <;> exact ⟨a, b, z1, z2⟩
theorem eqWR_run {pins : List (Addr × Obj)} {s : Shared} (I : Inv X pins σ H s) {A : Around} {G : V → V → Prop} (hu : A.units < cLine) (ih : ∀ x y v u, G x y → RelV x v → RelV y u → SeqAt.EqP X.prog X.w A.in1 s v u true) {x y : V} {v u : Value} (h : EqWR X.K H G x y) (rx : RelV x v) (ry : RelV y u)
    (Ex Qx : Value → Shared → Prop) (q : Qx (.bool true) s) : wpAny (model X.prog X.w) A (richCompare .Eq v u) Qx Ex s := by
  rcases h with hl | ⟨a, b, ks, ls, rfl, rfl, ga, gb, many, each⟩
  · exact eqR_run I hu ih (.inl hl) rx ry Ex Qx q
  · cases rx; cases ry
    have oa : ObjOk X.prog X.w H s.heap a (.dK ks) := ga.ok I.hok
    have ob : ObjOk X.prog X.w H s.heap b (.dK ls) := gb.ok I.hok
    obtain ⟨_, na, ka, va, da⟩ := oa
    obtain ⟨_, nb, kb, vb, db⟩ := ob
    have all := fun (_ : ka.length = kb.length) => hits_run ih vb va each
    have both : (ka.length == kb.length && true) = true := by
      have : ka.length = kb.length := by have := va.length; have := vb.length; omega
      simp [this]
    exact PySem.W.rcP_dicts (knd := mixKind X.prog X.w) (r := true) na nb da db hu all Ex Qx (by rw [both]; exact q)
theorem eqW_run {pins : List (Addr × Obj)} {s : Shared} (I : Inv X pins σ H s) : ∀ (n : Nat) (A : Around), A.units + n < cLine → ∀ (x y : V) (v u : Value), EqW X.K H n x y → RelV x v → RelV y u → SeqAt.EqP X.prog X.w A s v u true := by
  intro n
  induction n with
  | zero => intro A _ x y v u h rx ry; obtain ⟨rfl, f⟩ := h; exact (eqAt_same rx ry f).eqP
  | succ n ih =>
    intro A hu x y v u h rx ry
    rcases h with ⟨rfl, f⟩ | h
    · exact (eqAt_same rx ry f).eqP
    obtain ⟨a, b, rfl, rfl⟩ := eqWR_refs h
    have go := eqWR_run I (A := A) (by omega) (ih A.in1 (by show A.units + 1 + n < cLine; omega)) h rx ry
    cases rx; cases ry
    by_cases ab : a = b
    · rw [ab]; exact (SeqAt.EqAt.same _).eqP
    · exact SeqAt.eqP_refs ab go
theorem op_eqW (hu : X.A.units + 200 < cLine) : OpR X (compareOp .Eq) (fun x y H Q => EqWR X.K H (EqW X.K H 29) x y ∧ Q (.bl true) H) := by
  intro pins s σ H x y v u Q I rx ry h
  obtain ⟨h, q⟩ := h
  exact eqWR_run I (A := X.A) (by omega) (eqW_run I 29 X.A.in1 (by show X.A.units + 1 + 29 < cLine; omega)) h rx ry _ _ ⟨.bl true, H, I, rfl, q⟩
theorem hits_flat {A : Around} {s : Shared} {ls : List (Key × V)} {vb : List (Key × Value)} (rb : KV ls vb) {ks : List (Key × V)} {va : List (Key × Value)} (ra : KV ks va) :
    (∀ p ∈ ks, ∃ u, valV ls p.1 = some u ∧ p.2 = u ∧ flatB p.2 = true) → PySem.W.KeqHits A s vb va true := by
  unfold KV at ra
  induction ra with
  | nil => exact fun _ => .nil
  | @cons p q ps qs same _ more =>
    intro each
    obtain ⟨u, at_, rfl, flat⟩ := each p (by simp)
    have found : RelO (some p.2) (valueAt vb p.1) := at_ ▸ rb.val p.1
    obtain ⟨y, ey, ry⟩ := found.some_of
    obtain ⟨key, v⟩ := q
    obtain ⟨k1, k2⟩ := same
    have hit : valueAt vb key = some y := by rw [← ey]; exact congrArg (valueAt vb) (Eq.symm k1)
    have := PySem.W.KeqHits.hit (k := key) hit (eqAt_same (A := A) (s := s) k2 ry flat) (more fun p' hm => each p' (List.mem_cons_of_mem _ hm))
    simpa using this
theorem op_neDD (hu : X.A.units + 200 < cLine) : OpR X (compareOp .NotEq) (fun x y H Q => EqWD H (fun v u => v = u ∧ flatB v = true) x y ∧ Q (.bl false) H) := by
  rintro pins s σ H x y v u Q I rx ry ⟨⟨a, b, ks, ls, rfl, rfl, ga, gb, many, each⟩, q⟩
  cases rx; cases ry
  have oa : ObjOk X.prog X.w H s.heap a (.dK ks) := ga.ok I.hok
  have ob : ObjOk X.prog X.w H s.heap b (.dK ls) := gb.ok I.hok
  obtain ⟨_, na, ka, va, da⟩ := oa
  obtain ⟨_, nb, kb, vb, db⟩ := ob
  have both : (!(ka.length == kb.length && true)) = false := by
    have : ka.length = kb.length := by have := va.length; have := vb.length; omega
    simp [this]
  exact PySem.W.keq_ne (knd := mixKind X.prog X.w) (r := true) na nb da db (by omega) (fun _ => hits_flat vb va each) (by rw [both]; exact ⟨.bl false, H, I, rfl, q⟩)
theorem eqzip_val {E : V → V → Prop} : ∀ {ks : List Key} {vs us : List V}, ks.Nodup → ks.length = vs.length → Paired E vs us → ∀ p ∈ zipK ks vs, ∃ u, valV (zipK ks us) p.1 = some u ∧ E p.2 u
  | [], vs, us, _, _, _ => by intro p hp; cases vs <;> simp [zipK] at hp
  | k :: ks, vs, us, hn, hl, hp => by
    cases hp with
    | nil => simp at hl
    | @cons v u vs us e t =>
      intro p hm
      simp only [zipK, List.mem_cons] at hm
      simp only [List.nodup_cons] at hn
      rcases hm with rfl | hm
      · exact ⟨u, by rw [zipK, valV_pos (by simp)], e⟩
      · have hk : k ≠ p.1 := by
          rintro rfl
          apply hn.1
          clear hn t hl e
          revert hm
          generalize ks = l
          generalize vs = r
          intro hm
          induction l generalizing r with
          | nil => cases r <;> simp [zipK] at hm
          | cons a l ih =>
            cases r with
            | nil => simp [zipK] at hm
            | cons b r =>
              simp only [zipK, List.mem_cons] at hm
              rcases hm with hm | hm
              · rw [hm]; simp
              · exact List.mem_cons_of_mem _ (ih r hm)
        obtain ⟨u', e1, e2⟩ := eqzip_val hn.2 (by simpa using hl) t p hm
        exact ⟨u', by rw [zipK, valV_neg (by simpa using hk)]; exact e1, e2⟩
theorem eqzip_len {ks : List Key} : ∀ {vs us : List V}, vs.length = us.length → (zipK ks vs).length = (zipK ks us).length := by
  induction ks with
  | nil => intro vs us _; cases vs <;> cases us <;> rfl
  | cons k ks ih =>
    intro vs us h
    cases vs <;> cases us <;> simp [zipK] at h ⊢
    exact ih h
theorem eqnodup_map {ks : List KA} : ks.Nodup → (ks.map keyK).Nodup := by
  induction ks with
  | nil => intro _; simp
  | cons k ks ih =>
    intro h
    simp only [List.nodup_cons, List.map_cons] at h ⊢
    refine ⟨fun hm => h.1 ?_, ih h.2⟩
    obtain ⟨j, hj, e⟩ := List.mem_map.mp hm
    rw [← keyK_inj e]; exact hj
theorem eqvL_of {K : PySem.W.Frag} {n : Nat} (f : ∀ (d e : D) (x y : V), D.eqv n d e = true → RpA W w R H d x → RpA W w R H e y → EqW K H n x y) : ∀ (xs ys : List D) (vs us : List V), D.eqvL n xs ys = true → RpAL W w R H xs vs → RpAL W w R H ys us → Paired (EqW K H n) vs us
  | [], ys, vs, us, h, hx, hy => by
    cases ys with
    | nil => simp only [RpAL] at hx hy; subst hx; subst hy; exact .nil
    | cons y ys => simp [D.eqvL] at h
  | x :: xs, ys, vs, us, h, hx, hy => by
    cases ys with
    | nil => simp [D.eqvL] at h
    | cons y ys =>
      simp only [D.eqvL, Bool.and_eq_true] at h
      simp only [RpAL] at hx hy
      obtain ⟨v, vs, rfl, q1, t1⟩ := hx
      obtain ⟨u, us, rfl, q2, t2⟩ := hy
      exact .cons (f x y v u h.1 q1 q2) (eqvL_of f xs ys vs us h.2 t1 t2)
theorem eqv_dic {K : PySem.W.Frag} (sle : ∀ a u, w.S a = some u → RdX H a u) {n : Nat} (f : ∀ (d e : D) (x y : V), D.eqv n d e = true → RpA W w R H d x → RpA W w R H e y → EqW K H n x y)
    {o p : Bool} {ks js : List KA} {xs ys : List D} {x y : V} (h : D.eqv (n + 1) (.node o (.dK ks) xs) (.node p (.dK js) ys) = true) (hx : RpA W w R H (.node o (.dK ks) xs) x) (hy : RpA W w R H (.node p (.dK js) ys) y) :
    EqWD H (EqW K H n) x y := by
  obtain ⟨a, vs, rfl, ra, la⟩ := hx.node sle
  obtain ⟨b, us, rfl, rb, lb⟩ := hy.node sle
  have h' : ks = js ∧ D.eqvL n xs ys = true := by simpa [D.eqv] using h
  obtain ⟨rfl, h'⟩ := h'
  obtain ⟨o1, h1, m1⟩ := ra
  obtain ⟨o2, h2, m2⟩ := rb
  obtain ⟨rfl, l1, nd⟩ := m1
  obtain ⟨rfl, l2, _⟩ := m2
  have pr := eqvL_of f xs ys vs us h' la lb
  exact ⟨a, b, _, _, rfl, rfl, h1.1, h2.1, eqzip_len (Paired.length pr), eqzip_val (eqnodup_map nd) (by simpa using l1) pr⟩
theorem eqv_node {K : PySem.W.Frag} (sle : ∀ a u, w.S a = some u → RdX H a u) {n : Nat} (f : ∀ (d e : D) (x y : V), D.eqv n d e = true → RpA W w R H d x → RpA W w R H e y → EqW K H n x y)
    {o : Bool} {k : Kn} {xs : List D} {e : D} {x y : V} (h : D.eqv (n + 1) (.node o k xs) e = true) (hx : RpA W w R H (.node o k xs) x) (hy : RpA W w R H e y) : EqWR K H (EqW K H n) x y := by
  cases e with
  | node p j ys =>
    cases k with
    | lst =>
      cases j with
      | lst =>
        obtain ⟨a, vs, rfl, ra, la⟩ := hx.node sle
        obtain ⟨b, us, rfl, rb, lb⟩ := hy.node sle
        exact .inl ⟨a, b, vs, us, rfl, rfl, ra.list, rb.list, eqvL_of f xs ys vs us (by simpa [D.eqv] using h) la lb⟩
      | _ => simp [D.eqv] at h
    | dK ks =>
      cases j with
      | dK js =>
        exact .inr (eqv_dic sle f h hx hy)
      | _ => simp [D.eqv] at h
    | _ => simp [D.eqv] at h
  | _ => cases k <;> simp [D.eqv] at h
theorem eqv_flat {K : PySem.W.Frag} {d e : D} {n : Nat} {x y : V} (hd : ∀ o k xs, d ≠ .node o k xs) (h : D.eqv n d e = true) (hx : RpA W w R H d x) (hy : RpA W w R H e y) : x = y ∧ flatB x = true := by
  cases d with
  | non => cases e <;> simp [D.eqv] at h; exact ⟨by rw [hx.non, hy.non], by rw [hx.non]; rfl⟩
  | bl b => cases e <;> simp [D.eqv] at h; subst h; exact ⟨by rw [hx.bl, hy.bl], by rw [hx.bl]; rfl⟩
  | int b => cases e <;> simp [D.eqv] at h; subst h; exact ⟨by rw [hx.int, hy.int], by rw [hx.int]; rfl⟩
  | str b => cases e <;> simp [D.eqv] at h; subst h; exact ⟨by rw [hx.str, hy.str], by rw [hx.str]; rfl⟩
  | cell m => cases e <;> simp [D.eqv] at h
  | node o k xs => exact absurd rfl (hd o k xs)
theorem eqv_rep {K : PySem.W.Frag} (sle : ∀ a u, w.S a = some u → RdX H a u) : ∀ (n : Nat) (d e : D) (x y : V), D.eqv n d e = true → RpA W w R H d x → RpA W w R H e y → EqW K H n x y
  | 0, d, e, x, y, h, hx, hy => by
    cases d with
    | node o k xs => cases e with
      | node p j ys => cases k <;> cases j <;> simp [D.eqv] at h
      | _ => cases k <;> simp [D.eqv] at h
    | _ => exact eqv_flat (K := K) (fun _ _ _ z => by cases z) h hx hy
  | n + 1, d, e, x, y, h, hx, hy => by
    cases d with
    | node o k xs => exact .inr (eqv_node sle (eqv_rep sle n) h hx hy)
    | _ => exact .inl (eqv_flat (K := K) (fun _ _ _ z => by cases z) h hx hy)
theorem eqW0 {K : PySem.W.Frag} {x y : V} (h : EqW K H 0 x y) : x = y ∧ flatB x = true := h
theorem cop_snd (g : Gd W F c X E) (o : Cop) : ∃ r, OpR X (compareOp (cmOf o)) r ∧ CopOk W (copD o) r := by
  cases o with
  | eq =>
    refine ⟨_, (op_eqV g.un).or (op_eqW g.un), fun {w R H σ st da db x y k Q} h s hx hy q => ?_⟩
    simp only [copD] at h
    split at h
    · rename_i hc
      simp only [Bool.and_eq_true] at hc
      simp only [Option.some.injEq] at h; subst h
      exact .inl ⟨da, db, hc.1, hc.2, hx.vr s.sle hc.1, hy.vr s.sle hc.2, q⟩
    · cases da with
      | node o kn xs =>
        simp only [copX] at h
        split at h
        · rename_i hv
          cases h
          exact .inr ⟨eqv_node (K := X.K) s.sle (eqv_rep s.sle 29) hv hx hy, q⟩
        · cases h
      | _ => simp [copX] at h
  | ne =>
    refine ⟨_, (op_neV g.un).or ((op_neDS (by have := g.un; omega)).or (op_neDD g.un)), fun {w R H σ st da db x y k Q} h s hx hy q => ?_⟩
    simp only [copD] at h
    split at h
    · rename_i hu
      cases h
      match da, db, hu with
      | .node o (.dK ks) xs, .str z, _ =>
        obtain ⟨a, vs, rfl, ⟨ho, hr, hm⟩, _⟩ := hx.node s.sle
        obtain ⟨rfl, _⟩ := hm
        exact .inr (.inl ⟨a, _, _, rfl, hy.str, hr.1, q⟩)
    · split at h
      · rename_i hc
        simp only [Bool.and_eq_true] at hc
        simp only [Option.some.injEq] at h; subst h
        exact .inl ⟨da, db, hc.1, hc.2, hx.vr s.sle hc.1, hy.vr s.sle hc.2, q⟩
      · match da, db, h, hx, hy with
        | .node o (.dK ks) xs, .node p (.dK js) ys, h, hx, hy =>
          simp only [copY] at h
          split at h
          · rename_i hv
            cases h
            exact .inr (.inr ⟨eqv_dic (K := X.K) s.sle (eqv_rep s.sle 0) hv hx hy, q⟩)
          · cases h
  | lt =>
    refine ⟨_, op_lt.or op_lt_str, fun {w R H σ st da db x y k Q} h s hx hy q => ?_⟩
    cases da <;> cases db <;> simp [copD] at h
    · subst h; exact .inl ⟨_, _, hx.int, hy.int, q⟩
    · subst h; exact .inr ⟨_, _, hx.str, hy.str, q⟩
  | le =>
    refine ⟨_, op_le.or op_le_str, fun {w R H σ st da db x y k Q} h s hx hy q => ?_⟩
    cases da <;> cases db <;> simp [copD] at h
    · subst h; exact .inl ⟨_, _, hx.int, hy.int, q⟩
    · rename_i a b
      have hk : k = !ltL b a := by rw [h]; simp
      subst hk; exact .inr ⟨_, _, hx.str, hy.str, q⟩
  | gt =>
    refine ⟨_, op_gt.or op_gt_str, fun {w R H σ st da db x y k Q} h s hx hy q => ?_⟩
    cases da <;> cases db <;> simp [copD] at h
    · subst h; exact .inl ⟨_, _, hx.int, hy.int, q⟩
    · subst h; exact .inr ⟨_, _, hx.str, hy.str, q⟩
  | ge =>
    refine ⟨_, op_ge.or op_ge_str, fun {w R H σ st da db x y k Q} h s hx hy q => ?_⟩
    cases da <;> cases db <;> simp [copD] at h
    · subst h; exact .inl ⟨_, _, hx.int, hy.int, q⟩
    · rename_i a b
      have hk : k = !ltL a b := by rw [h]; simp
      subst hk; exact .inr ⟨_, _, hx.str, hy.str, q⟩
  | isN =>
    refine ⟨_, op_isN.or op_isBl, fun {w R H σ st da db x y k Q} h s hx hy q => ?_⟩
    by_cases hb : ∃ b, db = .bl b
    · obtain ⟨b, rfl⟩ := hb
      obtain ⟨a, rfl⟩ : ∃ a, da = .bl a := by cases da <;> simp [copD] at h <;> exact ⟨_, rfl⟩
      simp only [copD, Option.some.injEq] at h
      subst h
      exact .inr ⟨_, _, hx.bl, hy.bl, q⟩
    have hdb : db = .non := by
      cases db with
      | bl b => exact absurd ⟨b, rfl⟩ hb
      | non => rfl
      | _ => cases da <;> simp [copD] at h
    subst hdb
    refine .inl ⟨hy.non, ?_⟩
    cases da with
    | non => simp only [copD, Option.some.injEq] at h; subst h; rw [hx.non]; exact q
    | cell n => simp [copD] at h
    | bl b => simp only [copD, Option.some.injEq] at h; subst h; rw [hx.bl]; exact q
    | int b => simp only [copD, Option.some.injEq] at h; subst h; rw [hx.int]; exact q
    | str b => simp only [copD, Option.some.injEq] at h; subst h; rw [hx.str]; exact q
    | node o kn xs => simp only [copD, Option.some.injEq] at h; subst h; obtain ⟨a, vs, rfl, _⟩ := hx.node s.sle; exact q
  | notN =>
    refine ⟨_, op_notN.or op_notBl, fun {w R H σ st da db x y k Q} h s hx hy q => ?_⟩
    by_cases hb : ∃ b, db = .bl b
    · obtain ⟨b, rfl⟩ := hb
      obtain ⟨a, rfl⟩ : ∃ a, da = .bl a := by cases da <;> simp [copD] at h <;> exact ⟨_, rfl⟩
      simp only [copD, Option.some.injEq] at h
      subst h
      exact .inr ⟨_, _, hx.bl, hy.bl, q⟩
    have hdb : db = .non := by
      cases db with
      | bl b => exact absurd ⟨b, rfl⟩ hb
      | non => rfl
      | _ => cases da <;> simp [copD] at h
    subst hdb
    refine .inl ⟨hy.non, ?_⟩
    cases da with
    | non => simp only [copD, Option.some.injEq] at h; subst h; rw [hx.non]; exact q
    | cell n => simp [copD] at h
    | bl b => simp only [copD, Option.some.injEq] at h; subst h; rw [hx.bl]; exact q
    | int b => simp only [copD, Option.some.injEq] at h; subst h; rw [hx.int]; exact q
    | str b => simp only [copD, Option.some.injEq] at h; subst h; rw [hx.str]; exact q
    | node o kn xs => simp only [copD, Option.some.injEq] at h; subst h; obtain ⟨a, vs, rfl, _⟩ := hx.node s.sle; exact q
  | in_ =>
    refine ⟨_, (op_inV g.un).or (op_in_sign.or (op_inDict g.un)), fun {w R H σ st da db x y k Q} h s hx hy q => ?_⟩
    cases db with
    | node o kn xs =>
      cases kn with
      | tup =>
        have h' : (if D.okE 30 da && D.okEL 30 xs then some (memL da xs) else none) = some k := by cases da <;> exact h
        split at h'
        · rename_i hc
          simp only [Bool.and_eq_true] at hc
          simp only [Option.some.injEq] at h'; subst h'
          obtain ⟨a, vs, rfl, ra, la⟩ := hy.node s.sle
          exact .inl ⟨da, xs, a, vs, rfl, .inl ra.tup, hc.1, hc.2, hx.vr s.sle hc.1, la.vr s.sle hc.2, q⟩
        · cases h'
      | lst =>
        have h' : (if D.okE 30 da && D.okEL 30 xs then some (memL da xs) else none) = some k := by cases da <;> exact h
        split at h'
        · rename_i hc
          simp only [Bool.and_eq_true] at hc
          simp only [Option.some.injEq] at h'; subst h'
          obtain ⟨a, vs, rfl, ra, la⟩ := hy.node s.sle
          exact .inl ⟨da, xs, a, vs, rfl, .inr ra.list, hc.1, hc.2, hx.vr s.sle hc.1, la.vr s.sle hc.2, q⟩
        · cases h'
      | slst => cases da <;> simp [copD] at h
      | dK ks =>
        have h' : ((keyA da).map fun k => (findK k ks xs).isSome) = some k := by cases da <;> exact h
        cases ek : keyA da with
        | none => rw [ek] at h'; cases h'
        | some kk =>
          rw [ek] at h'
          simp only [Option.map_some, Option.some.injEq] at h'
          obtain ⟨p, r, rfl, gd, hf⟩ := dget_rep s ek hy hx
          refine .inr (.inr ⟨p, r, rfl, gd, ?_⟩)
          have : r.isSome = (findK kk ks xs).isSome := by
            revert hf
            cases findK kk ks xs with
            | some d => intro hf; obtain ⟨v, rfl, _⟩ := hf; rfl
            | none => intro hf; rw [hf]; rfl
          rw [this]
          show Q (.bl ((findK kk ks xs).isSome)) H
          rw [h']; exact q
      | dT ks =>
        have h' : ((keyT da).map fun k => (findK k ks xs).isSome) = some k := by cases da <;> exact h
        cases ek : keyT da with
        | none => rw [ek] at h'; cases h'
        | some kk =>
          rw [ek] at h'
          simp only [Option.map_some, Option.some.injEq] at h'
          obtain ⟨p, r, rfl, gd, hf⟩ := dgetT_rep s ek hy hx
          refine .inr (.inr ⟨p, r, rfl, gd, ?_⟩)
          have : r.isSome = (findK kk ks xs).isSome := by
            revert hf
            cases findK kk ks xs with
            | some d => intro hf; obtain ⟨v, rfl, _⟩ := hf; rfl
            | none => intro hf; rw [hf]; rfl
          rw [this]
          show Q (.bl ((findK kk ks xs).isSome)) H
          rw [h']; exact q
      | obj q ns => cases da <;> simp [copD] at h
      | exc q => cases da <;> simp [copD] at h
      | xd ns => cases da <;> simp [copD] at h
    | str z =>
      cases da with
      | str l =>
        match l, h, hx with
        | [ch], h, hx =>
          simp only [copD, Option.some.injEq] at h; subst h
          exact .inr (.inl ⟨ch, cps z, hx.str, hy.str, q⟩)
        | [], h, _ => simp [copD] at h
        | _ :: _ :: _, h, _ => simp [copD] at h
      | _ => simp [copD] at h
    | _ => cases da <;> simp [copD] at h
  | notIn =>
    refine ⟨_, (op_notInV g.un).or (op_notIn_sign.or (op_notInDict g.un)), fun {w R H σ st da db x y k Q} h s hx hy q => ?_⟩
    cases db with
    | node o kn xs =>
      cases kn with
      | tup =>
        have h' : (if D.okE 30 da && D.okEL 30 xs then some (!memL da xs) else none) = some k := by cases da <;> exact h
        split at h'
        · rename_i hc
          simp only [Bool.and_eq_true] at hc
          simp only [Option.some.injEq] at h'; subst h'
          obtain ⟨a, vs, rfl, ra, la⟩ := hy.node s.sle
          exact .inl ⟨da, xs, a, vs, rfl, .inl ra.tup, hc.1, hc.2, hx.vr s.sle hc.1, la.vr s.sle hc.2, q⟩
        · cases h'
      | lst =>
        have h' : (if D.okE 30 da && D.okEL 30 xs then some (!memL da xs) else none) = some k := by cases da <;> exact h
        split at h'
        · rename_i hc
          simp only [Bool.and_eq_true] at hc
          simp only [Option.some.injEq] at h'; subst h'
          obtain ⟨a, vs, rfl, ra, la⟩ := hy.node s.sle
          exact .inl ⟨da, xs, a, vs, rfl, .inr ra.list, hc.1, hc.2, hx.vr s.sle hc.1, la.vr s.sle hc.2, q⟩
        · cases h'
      | slst => cases da <;> simp [copD] at h
      | dK ks =>
        have h' : ((keyA da).map fun k => !(findK k ks xs).isSome) = some k := by cases da <;> exact h
        cases ek : keyA da with
        | none => rw [ek] at h'; cases h'
        | some kk =>
          rw [ek] at h'
          simp only [Option.map_some, Option.some.injEq] at h'
          obtain ⟨p, r, rfl, gd, hf⟩ := dget_rep s ek hy hx
          refine .inr (.inr ⟨p, r, rfl, gd, ?_⟩)
          have : r.isSome = (findK kk ks xs).isSome := by
            revert hf
            cases findK kk ks xs with
            | some d => intro hf; obtain ⟨v, rfl, _⟩ := hf; rfl
            | none => intro hf; rw [hf]; rfl
          rw [this]
          show Q (.bl (!(findK kk ks xs).isSome)) H
          rw [h']; exact q
      | dT ks =>
        have h' : ((keyT da).map fun k => !(findK k ks xs).isSome) = some k := by cases da <;> exact h
        cases ek : keyT da with
        | none => rw [ek] at h'; cases h'
        | some kk =>
          rw [ek] at h'
          simp only [Option.map_some, Option.some.injEq] at h'
          obtain ⟨p, r, rfl, gd, hf⟩ := dgetT_rep s ek hy hx
          refine .inr (.inr ⟨p, r, rfl, gd, ?_⟩)
          have : r.isSome = (findK kk ks xs).isSome := by
            revert hf
            cases findK kk ks xs with
            | some d => intro hf; obtain ⟨v, rfl, _⟩ := hf; rfl
            | none => intro hf; rw [hf]; rfl
          rw [this]
          show Q (.bl (!(findK kk ks xs).isSome)) H
          rw [h']; exact q
      | obj q ns => cases da <;> simp [copD] at h
      | exc q => cases da <;> simp [copD] at h
      | xd ns => cases da <;> simp [copD] at h
    | str z =>
      cases da with
      | str l =>
        match l, h, hx with
        | [ch], h, hx =>
          simp only [copD, Option.some.injEq] at h; subst h
          exact .inr (.inl ⟨ch, cps z, hx.str, hy.str, q⟩)
        | [], h, _ => simp [copD] at h
        | _ :: _ :: _, h, _ => simp [copD] at h
      | _ => simp [copD] at h
    | _ => cases da <;> simp [copD] at h
end
end VS
/-! VS12: comparisons in expressions, and, or, rows of expressions, displays, places, calls. -/
namespace VS
open PySem PySem.Spec L2
open PyProof.Rows hiding St
section
variable {W : Wd} {F : Cl} {c : Ck} {X : Cx} {E : L2.WX} {w w1 w2 : Wh} {H H1 H2 : Hp} {R Ra Rb : Own} {σ : L2.St} {st : Sg} {Q : VK}
theorem snd_cmp {o : Cop} {a b : CE} {ea eb : Expr} {p : Pos} (g : Gd W F c X E) (Sa : Snd W F a E X ea) (Sb : Snd W F b E X eb) (hs : isSet eb = false) : Snd W F (.cmp o a b) E X (.Compare ea [cmOf o] [eb] p) := by
  obtain ⟨ta, tb, pa, pb, rd⟩ := two_snd g Sa Sb
  obtain ⟨r, ho, hr⟩ := cop_snd g o
  refine ⟨peW (pe_cmpR ho pa pb (notIn_set hs)) fun σ H Q h => ?_, ptW (pt_cmpR ho pa pb (notIn_set hs)) fun σ H Q h => ?_, (fun z => by cases z), (fun _ _ z => by cases z), rfl⟩
  · obtain ⟨w, st, s, h⟩ := h
    refine rd r σ H Q w st _ s (PostR.ofE h) fun x y H2 w2 Rb da db st2 f2 s2 hx hy h2 => ?_
    obtain ⟨d, e, h3⟩ := PostE.of h2
    cases ek : copD o (drf st2.m da) (drf st2.m db) with
    | none => rw [ek] at e; cases e
    | some k =>
      rw [ek] at e
      cases e
      exact hr ek s2 (hx.drf s2) (hy.drf s2) (h3.scal f2 s2 (rpS_bl _))
  · obtain ⟨w, st, s, h⟩ := h
    refine rd r σ H _ w st _ s (PostR.bind (PostR.ofT h)) fun x y H2 w2 Rb da db st2 f2 s2 hx hy h2 => ?_
    obtain ⟨d, e, h3⟩ := PostR.of h2
    cases ek : copD o (drf st2.m da) (drf st2.m db) with
    | none => rw [ek] at e; cases e
    | some k =>
      rw [ek] at e
      cases e
      exact hr ek s2 (hx.drf s2) (hy.drf s2) ⟨k, rfl, h3 w2 H2 f2.noR s2⟩
/-- a < b < c -/
theorem snd_chn {o q : Cop} {a b d : CE} {ea eb ed : Expr} {p : Pos} (g : Gd W F c X E) (Sa : Snd W F a E X ea) (Sb : Snd W F b E X eb) (Sd : Snd W F d E X ed) (hs : isSet ed = false) (hs2 : isSet eb = false) :
    Snd W F (.chn o q a b d) E X (.Compare ea [cmOf o, cmOf q] [eb, ed] p) := by
  obtain ⟨ta, tb, pa, pb, rd⟩ := two_snd g Sa Sb
  obtain ⟨r, ho, hr⟩ := cop_snd g o
  obtain ⟨r', ho', hr'⟩ := cop_snd g q
  have main : ∀ (σ : L2.St) (H : Hp) (Q' : VK) (w : Wh) (st : Sg) (good : D → Sg → Prop), SRep W w H σ st → PostR W w H E good (ev F (.chn o q a b d) st) →
      (∀ (k : Bool) H2 w2 st2, Fr w H w2 noR H2 → SRep W w2 H2 σ st2 → good (.bl k) st2 → Q' (.bl k) H2) →
      tOp (fun x y H2 Q2 => r x y H2 fun z H3 => ∃ k, z = .bl k ∧ if k = true then semO W F E d σ H3 fun u H4 => r' y u H4 Q2 else Q2 (.bl false) H3) ta tb σ H Q' := by
    intro σ H Q' w st good s h kk
    refine rd _ σ H Q' w st _ s (PostR.bind h) fun x y H2 w2 Rb da db st2 f2 s2 hx hy h2 => ?_
    obtain ⟨k, ek, h3⟩ := PostR.of (PostR.bind h2)
    refine hr ek s2 (hx.drf s2) (hy.drf s2) ⟨k, rfl, ?_⟩
    by_cases hsh : db.sh = true
    · simp only [hsh, Bool.not_true, if_false, Bool.false_eq_true] at h3
      cases k with
      | false =>
        rw [if_neg Bool.false_ne_true] at h3 ⊢
        exact kk false H2 w2 st2 f2.noR s2 h3
      | true =>
        rw [if_pos rfl] at h3 ⊢
        refine opd_read f2 s2 (PostR.bind h3) fun u H4 w4 Rd dd st4 _ f4 s4 hu h4 => ?_
        obtain ⟨d', e', h5⟩ := PostR.of h4
        cases ek2 : copD q db (drf st4.m dd) with
        | none => rw [ek2] at e'; cases e'
        | some k2 =>
          rw [ek2] at e'
          cases e'
          have hy4 : RpA W w4 Rd H4 db y := RpA.ofS ((hy.sh hsh).mono f4.S)
          exact hr' ek2 s4 hy4 (hu.drf s4) (kk k2 H4 w4 st4 (f2.trans f4).noR s4 h5)
    · have : db.sh = false := by simpa using hsh
      simp only [this, Bool.not_false, if_true] at h3
      exact h3.elim
  have sw : ∀ (Q2 : VK) (σ : L2.St) (H : Hp), tOp (fun x y H2 Q2 => r x y H2 fun z H3 => ∃ k, z = .bl k ∧ if k = true then semO W F E d σ H3 fun u H4 => r' y u H4 Q2 else Q2 (.bl false) H3) ta tb σ H Q2 = tChain r r' ta tb (semO W F E d) σ H Q2 := fun _ _ _ => rfl
  have marks : lastMarks [cmOf o, cmOf q] [eb, ed] = false := notIn_set hs
  refine ⟨?_, ?_, (fun z => by cases z), (fun _ _ z => by cases z), rfl⟩
  · refine peW (pe_chain ho ho' pa pb (snd_opd Sd) ?_) fun σ H Q h => ?_
    · first | exact marks | exact ⟨notIn_set hs2, notIn_set hs⟩ | exact notIn_set hs
    · obtain ⟨w, st, s, h⟩ := h
      rw [← sw]
      refine main σ H Q w st (fun d st => PostE W w H σ Q E (.ok d st)) s (by
        revert h
        unfold PostE PostR
        cases ev F (.chn o q a b d) st <;> exact fun h => h) fun k H2 w2 st2 f2 s2 h2 => h2.scal f2 s2 (rpS_bl _)
  · refine ptW (pt_chain ho ho' pa pb (snd_opd Sd) ?_) fun σ H Q h => ?_
    · first | exact marks | exact ⟨notIn_set hs2, notIn_set hs⟩ | exact notIn_set hs
    · obtain ⟨w, st, s, h⟩ := h
      show tChain r r' ta tb (semO W F E d) σ H _
      rw [← sw]
      refine main σ H _ w st (fun d st => PostT W w H σ Q E (Rs.of (trD (drf st.m d)) st)) s (PostR.ofT h) fun k H2 w2 st2 f2 s2 h2 => ?_
      exact ⟨k, rfl, h2 w2 H2 f2.noR s2⟩
/-- a test of a row of and, or -/
theorem PW.ofPT {op : BoolOp} {es : List Expr} {p : Pos} {t : TT} (h : PT X (.BoolOp op es p) t) : PW X (.BoolOp op es p) t := ⟨fun _ pins s σ H Q I q => h.run pins s σ H Q I q⟩
/-- what is shown of the rest of a row of and, or -/
structure SndR (W : Wd) (F : Cl) (c : CE) (E : L2.WX) (X : Cx) (op : BoolOp) (es : List Expr) (p : Pos) : Prop where
  v : PE X (.BoolOp op es p) (semE W F E c)
  t : PW X (.BoolOp op es p) (semT W F E c)
theorem sndR_one {op : BoolOp} {a : CE} {ea : Expr} {p : Pos} (S : Snd W F a E X ea) : SndR W F a E X op [ea] p := ⟨pe_one S.v, by cases op; exact pw_and1 S.t; exact pw_or1 S.t⟩
theorem sndR_of {op : BoolOp} {a : CE} {es : List Expr} {p : Pos} (S : Snd W F a E X (.BoolOp op es p)) : SndR W F a E X op es p := ⟨S.v, PW.ofPT S.t⟩
theorem snd_and {a b : CE} {ea eb : Expr} {es : List Expr} {p : Pos} (g : Gd W F c X E) (Sa : Snd W F a E X ea) (Sb : SndR W F b E X .And (eb :: es) p) : Snd W F (.and_ a b) E X (.BoolOp .And (ea :: eb :: es) p) := by
  refine ⟨peW (pe_andT Sa.v Sb.v) fun σ H Q h => ?_, ptW (PW.pt (pw_and Sa.t Sb.t)) fun σ H Q h => ?_, (fun z => by cases z), (fun _ _ z => by cases z), rfl⟩
  · obtain ⟨w, st, s, h⟩ := h
    refine evRead (Fr.refl w H) s (PostR.ofE (f := fun d st => (Rs.of (trD (drf st.m d)) st).bind fun t st => if t then ev F b st else .ok d st) h) fun y H2 w2 Rb db st2 f2 s2 hy h2 => ?_
    obtain ⟨k, ek, h3⟩ := PostR.of (PostR.ofE h2)
    refine ⟨k, tru_rep s2 ek (RpA.drf s2 (RpA.held hy)) g.K, ?_⟩
    cases k with
    | true => rw [if_pos rfl] at h3 ⊢; exact ⟨w2, st2, s2, PostE.shift f2 h3⟩
    | false => rw [if_neg Bool.false_ne_true] at h3 ⊢; exact h3 w2 Rb H2 y f2 s2 hy
  · obtain ⟨w, st, s, h⟩ := h
    refine tsRead (Fr.refl w H) s (PostR.ofT (f := fun t st => if t then tst F b st else .ok false st) h) fun k H2 w2 st2 f2 s2 h2 => ?_
    cases k with
    | true => rw [if_pos rfl] at h2 ⊢; exact ⟨w2, st2, s2, PostT.shift f2 h2⟩
    | false => rw [if_neg Bool.false_ne_true] at h2 ⊢; exact h2 w2 H2 f2 s2
theorem snd_or {a b : CE} {ea eb : Expr} {es : List Expr} {p : Pos} (g : Gd W F c X E) (Sa : Snd W F a E X ea) (Sb : SndR W F b E X .Or (eb :: es) p) : Snd W F (.or_ a b) E X (.BoolOp .Or (ea :: eb :: es) p) := by
  refine ⟨peW (pe_orT Sa.v Sb.v) fun σ H Q h => ?_, ptW (PW.pt (pw_or Sa.t Sb.t)) fun σ H Q h => ?_, (fun z => by cases z), (fun _ _ z => by cases z), rfl⟩
  · obtain ⟨w, st, s, h⟩ := h
    refine evRead (Fr.refl w H) s (PostR.ofE (f := fun d st => (Rs.of (trD (drf st.m d)) st).bind fun t st => if t then .ok d st else ev F b st) h) fun y H2 w2 Rb db st2 f2 s2 hy h2 => ?_
    obtain ⟨k, ek, h3⟩ := PostR.of (PostR.ofE h2)
    refine ⟨k, tru_rep s2 ek (RpA.drf s2 (RpA.held hy)) g.K, ?_⟩
    cases k with
    | true => rw [if_pos rfl] at h3 ⊢; exact h3 w2 Rb H2 y f2 s2 hy
    | false => rw [if_neg Bool.false_ne_true] at h3 ⊢; exact ⟨w2, st2, s2, PostE.shift f2 h3⟩
  · obtain ⟨w, st, s, h⟩ := h
    refine tsRead (Fr.refl w H) s (PostR.ofT (f := fun t st => if t then .ok true st else tst F b st) h) fun k H2 w2 st2 f2 s2 h2 => ?_
    cases k with
    | true => rw [if_pos rfl] at h2 ⊢; exact h2 w2 H2 f2 s2
    | false => rw [if_neg Bool.false_ne_true] at h2 ⊢; exact ⟨w2, st2, s2, PostT.shift f2 h2⟩
/-! ### rows of values -/
theorem RpT.mono {w w' : Wh} {H H' : Hp} (kp : ∀ r, Kp w w' H H' r r) : ∀ {j : Nat} {ds : List D} {vs : List V}, RpT W w H j ds vs → RpT W w' H' j ds vs
  | _, [], _, h => by simpa only [RpT] using h
  | j, d :: ds, vs, h => by
    simp only [RpT] at h ⊢
    obtain ⟨v, s, e, q, t⟩ := h
    exact ⟨v, s, e, Rp.mono (kp _) q, RpT.mono kp t⟩
theorem RpT.len {w : Wh} {H : Hp} : ∀ {j : Nat} {ds : List D} {vs : List V}, RpT W w H j ds vs → ds.length = vs.length
  | _, [], _, h => by simp only [RpT] at h; subst h; rfl
  | j, d :: ds, vs, h => by
    simp only [RpT] at h
    obtain ⟨v, s, e, q, t⟩ := h
    rw [e, List.length_cons, List.length_cons, RpT.len t]
theorem RpT.sh {w : Wh} {H : Hp} : ∀ {j : Nat} {ds : List D} {vs : List V}, D.shL ds = true → RpT W w H j ds vs → RpSL W w.S ds vs
  | _, [], _, _, h => by simpa only [RpT, RpSL] using h
  | j, d :: ds, vs, e, h => by
    simp only [RpT] at h
    obtain ⟨v, s, e1, q, t⟩ := h
    simp only [D.shL, Bool.and_eq_true] at e
    simp only [RpSL]
    exact ⟨v, s, e1, Rp.sh e.1 q, RpT.sh e.2 t⟩
/-- temp 0 is told as temp j -/
def tj (j : Nat) : Ix → Ix := fun r => if r = .temp 0 then .temp j else r
theorem Fr.rightT (a : Fr w H w1 Ra H1) (b : Fr w1 H1 w2 Rb H2) {j : Nat} {ds : List D} {vs : List V} (h : RpT W (w2.wth Rb) H2 j ds vs) : RpT W (w2.wth (ownU Ra Rb)) H2 j ds vs :=
  RpT.mono (w := w2.wth Rb) (w' := w2.wth (ownU Ra Rb)) (fun r => ⟨SLe.refl _, fun _ _ q => q, fun x p q => (ownU_right (a.apart b x (by rw [show Rb x = _ from q]; simp))).trans q, fun _ _ _ _ e => e⟩) h
end
section
variable {W : Wd} {F : Cl} {c : Ck} {X : Cx} {E : L2.WX}
def semVj (W : Wd) (F : Cl) (E : L2.WX) (j : Nat) (es : CEs) : TA := fun σ H Q => ∃ w st, SRep W w H σ st ∧ PostL W w H σ j Q E (evv F es st)
structure SndL (W : Wd) (F : Cl) (cs : CEs) (E : L2.WX) (X : Cx) (es : List Expr) : Prop where
  v : ∀ j, PA X es (semVj W F E j cs)
  ns : es.all noStar = true
  len : cs.len = es.length
theorem sndL_nil : SndL W F .nil E X [] := by
  refine ⟨fun j => paW pa_nil fun σ H Q h => ?_, rfl, rfl⟩
  obtain ⟨w, st, s, h⟩ := h
  exact h w noR H [] (Fr.refl w H) s (by simp only [RpT])
theorem sndL_cons {a : CE} {r : CEs} {e : Expr} {es : List Expr} (Sa : Snd W F a E X e) (Sr : SndL W F r E X es) : SndL W F (.cons a r) E X (e :: es) := by
  refine ⟨fun j => paW (pa_cons Sa.v (Sr.v (j + 1)) (starEach_cons Sa.ns)) fun σ H Q h => ?_, by simp [Sa.ns, Sr.ns], by simp [CEs.len, Sr.len]⟩
  obtain ⟨w, st, s, h⟩ := h
  have h' : PostL W w H σ j Q E ((ev F a st).bind fun d st => (evv F r st).bind fun ds st => .ok (d :: ds) st) := h
  refine evRead (Fr.refl w H) s (PostR.ofL h') fun y H2 w2 Rb db st2 f2 s2 hy h2 => ?_
  refine ⟨w2, st2, s2, ?_⟩
  have := PostR.stepL (σ := σ) (j := j + 1) f2 (PostR.ofL h2)
  revert this
  cases evv F r st2 with
  | ok ds st3 =>
    intro this w3 Rc H3 vs f3 s3 h3
    obtain ⟨w3', Rc', ds', st3', e3, _, _, _, q3⟩ := this w3 Rc H3 vs f3 s3 h3
    cases e3
    have f2' := f2.ren (tj j)
    refine q3 w3 (ownU (ren (tj j) Rb) Rc) H3 (y :: vs) (f2'.trans f3) s3 ?_
    simp only [RpT]
    refine ⟨y, vs, rfl, ?_, Fr.rightT f2' f3 h3⟩
    have := held_ren (w := w2) (H := H2) (tj j) hy
    have e0 : tj j (.temp 0) = .temp j := by unfold tj; simp
    rw [e0] at this
    exact held_left (f2'.held f3 this)
  | ex x st3 => exact fun this => this
  | bad => exact fun this => this
end
end VS
/-! VS13: displays, places, calls of functions. -/
namespace VS
open PySem PySem.Spec L2
open PyProof.Rows hiding St
/-- as Kp, of what stands within trees -/
structure Km (w w' : Wh) (H H' : Hp) (r r' : Ix) : Prop where
  S : SLe w.S w'.S
  io : ∀ (n : Nat) (a : Addr), w.io[n]? = some a → w'.io[n]? = some a
  own : ∀ a p, w.own a = some (r, some p) → w'.own a = some (r', some p)
  H : ∀ a p u, w.own a = some (r, some p) → H a = some u → H' a = some u
mutual
theorem Rp.mv {W : Wd} {w w' : Wh} {H H' : Hp} {r r' : Ix} (kp : Km w w' H H' r r') : ∀ {d : D} {p : Addr × Nat} {v : V}, Rp W w H r d (some p) v → Rp W w' H' r' d (some p) v
  | .non, _, _, h => by simpa only [Rp] using h
  | .bl _, _, _, h => by simpa only [Rp] using h
  | .int _, _, _, h => by simpa only [Rp] using h
  | .str _, _, _, h => by simpa only [Rp] using h
  | .node false k xs, _, v, h => by
    simp only [Rp] at h ⊢
    obtain ⟨a, vs, e, q, r⟩ := h
    exact ⟨a, vs, e, q.mono kp.S, RpSL.mono kp.S r⟩
  | .node true k xs, p, v, h => by
    simp only [Rp] at h ⊢
    obtain ⟨a, vs, ho, e, q, hh, hm, r⟩ := h
    exact ⟨a, vs, ho, e, kp.own _ _ q, kp.H _ _ _ q hh, hm, RpL.mv kp r⟩
  | .cell n, _, v, h => by
    simp only [Rp] at h ⊢
    obtain ⟨a, e, q⟩ := h
    exact ⟨a, kp.io _ _ e, q⟩
theorem RpL.mv {W : Wd} {w w' : Wh} {H H' : Hp} {r r' : Ix} (kp : Km w w' H H' r r') : ∀ {xs : List D} {a : Addr} {j : Nat} {vs : List V}, RpL W w H r xs a j vs → RpL W w' H' r' xs a j vs
  | [], _, _, _, h => by simpa only [RpL] using h
  | x :: xs, a, j, vs, h => by
    simp only [RpL] at h ⊢
    obtain ⟨v, s, e, q, t⟩ := h
    exact ⟨v, s, e, Rp.mv kp q, RpL.mv kp t⟩
end
section
variable {W : Wd} {F : Cl} {c : Ck} {X : Cx} {E : L2.WX} {w w1 w2 : Wh} {H H1 H2 : Hp} {R Ra Rb : Own} {σ : L2.St} {st : Sg} {Q : VK}
/-- a root becomes a child -/
theorem Rp.child {w w' : Wh} {H H' : Hp} {r r' : Ix} {q : Addr × Nat} (kp : Km w w' H H' r r') (root : ∀ a, w.own a = some (r, none) → w'.own a = some (r', some q)) (rootH : ∀ a u, w.own a = some (r, none) → H a = some u → H' a = some u) {d : D} {v : V} (h : Rp W w H r d none v) : Rp W w' H' r' d (some q) v := by
  cases d with
  | node o k xs =>
    cases o with
    | false =>
      simp only [Rp] at h ⊢
      obtain ⟨a, vs, e, q, r⟩ := h
      exact ⟨a, vs, e, q.mono kp.S, RpSL.mono kp.S r⟩
    | true =>
      simp only [Rp] at h ⊢
      obtain ⟨a, vs, ho, e, q, hh, hm, r⟩ := h
      exact ⟨a, vs, ho, e, root _ q, rootH _ _ q hh, hm, RpL.mv kp r⟩
  | cell n =>
    simp only [Rp] at h ⊢
    obtain ⟨a, e, q⟩ := h
    exact ⟨a, kp.io _ _ e, q⟩
  | _ => simpa only [Rp] using h
/-- the things held as temp 0, 1, .. become the children of p -/
def under (p : Addr) (R : Own) : Own := fun x => if x = p then some (.temp 0, none) else match R x with
  | some (.temp j, none) => some (.temp 0, some (p, j))
  | some (_, q) => some (.temp 0, q)
  | none => none
theorem under_ne {p x : Addr} {R : Own} (h : under p R x ≠ none) : x = p ∨ R x ≠ none := by
  unfold under at h
  by_cases e : x = p
  · exact .inl e
  · rw [if_neg e] at h
    right
    intro z
    rw [z] at h; exact absurd rfl h
theorem under_rep {p : Addr} {o : HO} (hp : H1 p = none) (hR : ∀ x, R x ≠ none → H1 x ≠ none) : ∀ {ds : List D} {j : Nat} {vs : List V}, RpT W (w1.wth R) H1 j ds vs → RpL W (w1.wth (under p R)) (upd H1 p o) (.temp 0) ds p j vs
  | [], _, _, h => by simpa only [RpL, RpT] using h
  | d :: ds, j, vs, h => by
    simp only [RpT] at h
    obtain ⟨v, s, e, q, t⟩ := h
    simp only [RpL]
    refine ⟨v, s, e, ?_, under_rep hp hR t⟩
    have ne : ∀ a t, R a = some t → a ≠ p := fun a t h z => by subst z; exact hR a (by rw [h]; simp) hp
    refine Rp.child (w := w1.wth R) (w' := w1.wth (under p R)) (r := .temp j) (q := (p, j)) ⟨SLe.refl _, fun _ _ h => h, fun a q h => ?_, fun a q u h e => ?_⟩ (fun a h => ?_) (fun a u h e => by rw [upd_ne (ne a _ h)]; exact e) q
    · have h' : R a = some (.temp j, some q) := h
      show under p R a = _
      unfold under
      rw [if_neg (ne a _ h'), h']
    · rw [upd_ne (ne a _ h)]; exact e
    · have h' : R a = some (.temp j, none) := h
      show under p R a = _
      unfold under
      rw [if_neg (ne a _ h'), h']
/-- what isn't shared is no key -/
theorem kv_not {w : Wh} {H : Hp} : ∀ {ds : List D} {j : Nat} {vs : List V}, RpT W w H j ds vs → ¬ D.shL ds = true → ktO (.tup vs) = false
  | [], _, _, _, h => absurd rfl h
  | d :: ds, j, vs, q, h => by
    simp only [RpT] at q
    obtain ⟨v, s, rfl, q1, q2⟩ := q
    show (isKV v && s.all isKV) = false
    by_cases hd : d.sh = true
    · have := kv_not q2 (fun z => h (by simp only [D.shL, hd, z, Bool.and_self]))
      have e : s.all isKV = false := this
      rw [e, Bool.and_false]
    · have hv : isKV v = false := by
        cases d with
        | non => exact absurd rfl hd
        | bl b => exact absurd rfl hd
        | int i => exact absurd rfl hd
        | str l => exact absurd rfl hd
        | cell n => simp only [Rp] at q1; obtain ⟨a, _, rfl⟩ := q1; rfl
        | node o k xs =>
          cases o with
          | false => simp only [Rp] at q1; obtain ⟨a, us, rfl, _⟩ := q1; rfl
          | true => simp only [Rp] at q1; obtain ⟨a, us, ho, rfl, _⟩ := q1; rfl
      rw [hv, Bool.false_and]
/-- a new thing of things that are held -/
theorem PostE.newT {k : Kn} {xs : List D} {vs : List V} {o : HO} (h : PostE W w H σ Q E (.ok (.node true k xs) st)) (fr : Fr w H w1 Ra H1) (s : SRep W w1 H1 σ st) (hx : RpT W (w1.wth Ra) H1 0 xs vs) (hm : HOm W vs k o) (hk : ktO o = false := by rfl) :
    ∀ p, H1 p = none → Q (.ref p) (upd H1 p o) := fun p hp => by
  have f1 := fr.new (o := o) s hp hk
  have f2 : Fr w H w1 (under p Ra) (upd H1 p o) := ⟨f1.S, f1.io, f1.dom, fun x h => (under_ne h).elim (fun z => f1.domR x (by subst z; rw [one_same]; simp)) fun z => fr.domR x z, f1.Sd, f1.keep, fun x h => (under_ne h).elim (fun z => f1.R x (by subst z; rw [one_same]; simp)) fun z => by
    obtain ⟨q1, q2, q3⟩ := fr.R x z
    exact ⟨q1, q2, q3.keep fun u e => by rw [upd_ne (ne_of_none e hp)]; exact e⟩⟩
  refine h w1 (under p Ra) (upd H1 p o) (.ref p) f2 (s.laid hp) ?_
  simp only [Rp]
  exact ⟨p, vs, o, rfl, by show under p Ra p = _; unfold under; rw [if_pos rfl], upd_same, hm, under_rep hp (fun x h => (fr.R x h).2.2.ne) hx⟩
theorem snd_tup {es : CEs} {l : List Expr} {k : Nat} {p : Pos} (g : Gd W F c X E) (S : SndL W F es E X l) : Snd W F (.tup es) E X (.Tuple l k p) := by
  have hv : PE X (.Tuple l k p) (semE W F E (.tup es)) := peW (pe_tup (S.v 0)) fun σ H Q h => by
    obtain ⟨w, st, s, h⟩ := h
    refine ⟨w, st, s, ?_⟩
    have h' : PostE W w H σ Q E ((evv F es st).bind fun ds st => if ds.length ≤ LN then .ok (if D.shL ds then .tup false ds else .tup true ds) st else .bad) := h
    have := PostR.stepL (σ := σ) (j := 0) (Fr.refl w H) (PostR.ofE h')
    revert this
    cases evv F es st with
    | ok ds st2 =>
      intro this w2 Rb H2 vs f2 s2 h2
      obtain ⟨w2', Rb', ds', st2', e2, _, _, _, q2⟩ := this w2 Rb H2 vs f2 s2 h2
      cases e2
      by_cases hl : ds.length ≤ LN
      · rw [if_pos hl] at q2
        refine ⟨by rw [← h2.len, ← LN_eq]; exact hl, fun p hp => ?_⟩
        by_cases hs : D.shL ds = true
        · rw [if_pos hs] at q2
          exact q2.newS f2 s2 (RpT.sh (w := w2.wth Rb) hs h2) rfl p hp
        · rw [if_neg hs] at q2
          exact q2.newT f2 s2 h2 rfl (kv_not h2 hs) p hp
      · rw [if_neg hl] at q2; exact q2.elim
    | ex x st2 => exact fun this => this
    | bad => exact fun this => this
  exact ⟨hv, PT.of_v g hv rfl fun _ => rfl, (fun z => by cases z), (fun _ _ z => by cases z), rfl⟩
theorem snd_lst {es : CEs} {l : List Expr} {p : Pos} (g : Gd W F c X E) (S : SndL W F es E X l) : Snd W F (.lst es) E X (.List l p) := by
  have hv : PE X (.List l p) (semE W F E (.lst es)) := peW (pe_lst (S.v 0)) fun σ H Q h => by
    obtain ⟨w, st, s, h⟩ := h
    refine ⟨w, st, s, ?_⟩
    have h' : PostE W w H σ Q E ((evv F es st).bind fun ds st => if ds.length ≤ LN then .ok (.lst true ds) st else .bad) := h
    have := PostR.stepL (σ := σ) (j := 0) (Fr.refl w H) (PostR.ofE h')
    revert this
    cases evv F es st with
    | ok ds st2 =>
      intro this w2 Rb H2 vs f2 s2 h2
      obtain ⟨w2', Rb', ds', st2', e2, _, _, _, q2⟩ := this w2 Rb H2 vs f2 s2 h2
      cases e2
      by_cases hl : ds.length ≤ LN
      · rw [if_pos hl] at q2
        exact ⟨by rw [← h2.len, ← LN_eq]; exact hl, fun p hp => q2.newT f2 s2 h2 rfl rfl p hp⟩
      · rw [if_neg hl] at q2; exact q2.elim
    | ex x st2 => exact fun this => this
    | bad => exact fun this => this
  exact ⟨hv, PT.of_v g hv rfl fun _ => rfl, (fun z => by cases z), (fun _ _ z => by cases z), rfl⟩
/-- a call of a function of the module -/
theorem snd_cal {f : String} {es : CEs} {x : Str} {l : List Expr} {p q : Pos} (g : Gd W F c X E) (hx : x = sn f) (hf : f ∈ c.fs) (hg : glB c.sc x = true) (hd : dbB x = false) (S : SndL W F es E X l) :
    Snd W F (.cal f es) E X (.Call (.Name x p) l [] q) := by
  subst hx
  obtain ⟨fa, hm, hk, hc⟩ := g.cal f hf
  simp only [dbB, Bool.or_eq_false_iff] at hd
  have hgl : Gl X (sn f) := by show X.env.scope.names.lookup (sn f) = _; rw [g.sc]; exact of_decide_eq_true hg
  have main : ∀ (pins : List (Addr × Obj)) (s1 : Shared) (σ : L2.St) (H1 : Hp) (Q : VK) (vs : List V) (us : List Value) (w : Wh) (H : Hp) (w2 : Wh) (Rb : Own) (ds : List D) (st2 : Sg), Inv X pins σ H1 s1 → Vals vs us → Fr w H w2 Rb H1 → SRep W w2 H1 σ st2 → RpT W (w2.wth Rb) H1 0 ds vs →
      PostE W w H σ Q E ((F.fn false f ds st2.m).rs st2) → wpAny (model X.prog X.w) X.A (call (.ref fa) us) (EP X pins σ Q) X.xe s1 := fun pins s1 σ H1 Q vs us w H w2 Rb ds st2 I1 r f2 s2 h2 q2 =>
    hc X E (Kin.refl X) g.tk pins s1 σ H1 vs us Q I1 r ⟨w, H, w2, Rb, ds, st2, f2, s2, h2, q2⟩
  have hv : PE X (.Call (.Name (sn f) p) l [] q) (semE W F E (.cal f es)) := by
    refine ⟨fun pins s σ H Q I h => ?_⟩
    obtain ⟨w, st, sr, h⟩ := h
    have h' : PostE W w H σ Q E ((evv F es st).bind fun ds st => (F.fn false f ds st.m).rs st) := h
    refine wpAny_Call_Name_kw (ld_glob I hgl hm ?_ hd.1.1)
    have ha := (S.v 0).run q pins s σ H (fun vs H1 => ∃ w2 Rb ds st2, Fr w H w2 Rb H1 ∧ SRep W w2 H1 σ st2 ∧ RpT W (w2.wth Rb) H1 0 ds vs ∧ PostE W w H σ Q E ((F.fn false f ds st2.m).rs st2)) I ⟨w, st, sr, by
      have := PostR.stepL (σ := σ) (j := 0) (Fr.refl w H) (PostR.ofE h')
      revert this
      cases evv F es st with
      | ok ds st2 =>
        intro this w2 Rb H2 vs f2 s2 h2
        obtain ⟨w2', Rb', ds', st2', e2, _, _, _, q2⟩ := this w2 Rb H2 vs f2 s2 h2
        cases e2
        exact ⟨w2, Rb, ds, st2, f2, s2, h2, q2⟩
      | ex x st2 => exact fun this => this
      | bad => exact fun this => this⟩
    cases l with
    | nil =>
      refine PySem.W.callWith_K0 I.kIn hk ?_
      have ha2 : ∃ w2 Rb ds st2, Fr w H w2 Rb H ∧ SRep W w2 H σ st2 ∧ RpT W (w2.wth Rb) H 0 ds [] ∧ PostE W w H σ Q E ((F.fn false f ds st2.m).rs st2) := by
        have hl := S.len
        cases es with
        | nil => exact ⟨w, noR, [], st, Fr.refl w H, sr, by simp only [RpT], h'⟩
        | cons a r => simp [CEs.len] at hl
      obtain ⟨w2, Rb, ds, st2, f2, s2, h2, q2⟩ := ha2
      exact main pins s σ H Q [] [] w H w2 Rb ds st2 I .nil f2 s2 h2 q2
    | cons e0 l0 =>
      have hns := S.ns
      simp only [List.all_cons, Bool.and_eq_true] at hns
      refine PySem.W.callWith_K (h₀ := X.base) I.ok.mod.kin hk (thn ha fun us s1 hh => ?_) (starEach_cons hns.1) (plain_star hns.2)
      obtain ⟨vs, H1, I1, r, w2, Rb, ds, st2, f2, s2, h2, q2⟩ := hh
      exact ⟨I1.kIn, main pins s1 σ H1 Q vs us w H w2 Rb ds st2 I1 r f2 s2 h2 q2⟩
  exact ⟨hv, PT.of_v g hv rfl fun _ => rfl, (fun z => by cases z), (fun _ _ z => by cases z), rfl⟩
end
end VS
/-! VS14: things at places: a[i]. -/
namespace VS
open PySem PySem.Spec L2
open PyProof.Rows hiding St
section
variable {W : Wd} {F : Cl} {c : Ck} {X : Cx} {E : L2.WX} {w w1 w2 : Wh} {H H1 H2 : Hp} {R Ra Rb : Own} {σ : L2.St} {st : Sg} {Q : VK}
def rIxD : L2.R2 := fun x y H Q => ∃ a v, x = .ref a ∧ DGet H a y (some v) ∧ Q v H
theorem ix_dict (hu : X.A.units + 200 < cLine) : IxR X rIxD := by
  intro value slice pins s σ H x y v u Q I rx ry h hs
  obtain ⟨a, z, rfl, g, q⟩ := h
  cases rx
  exact tail_any (dict_typeIs I g) PySem.F.slot_dict_getitem.lookup (d_getItem (by omega) I g ry fun w' s3 I3 rw' => ⟨z, H, I3, rw', q⟩) hs
theorem idx_snd (hu : X.A.units + 200 < cLine) : ∃ r, IxR X r ∧ ∀ {w : Wh} {R : Own} {H : Hp} {σ : L2.St} {st : Sg} {da db d : D} {x y : V} {Q : VK}, idxD da db = some d → SRep W w H σ st → RpA W w R H da x → RpA W w R H db y →
    (∀ v, RpA W w R H d v → Q v H) → r x y H Q := by
  refine ⟨_, (ix_list (X := X)).or ((ix_tup (X := X)).or ((ix_str (X := X)).or (ix_dict hu))), ?_⟩
  intro w R H σ st da db d x y Q h s hx hy q
  cases da with
  | str l =>
    cases db with
    | int i =>
      simp only [idxD] at h
      split at h
      · rename_i hl
        cases e1 : ixI l.length i with
        | none => rw [e1] at h; cases h
        | some j =>
          rw [e1] at h
          simp only [Option.bind_some] at h
          cases e2 : l[j]? with
          | none => rw [e2] at h; cases h
          | some ch =>
            rw [e2] at h
            simp only [Option.map_some, Option.some.injEq] at h
            subst h
            refine .inr (.inr (.inl ⟨cps l, i, ch, hx.str, hy.int, by rw [cps_len, ← LN_eq]; exact hl, ?_, q _ (RpA.ofS (rpS_str _))⟩))
            show (ixN l.length i).bind (fun j => l[j]?) = some ch
            have e1' : ixN l.length i = some j := e1
            rw [e1']; exact e2
      · cases h
    | _ => simp [idxD] at h
  | node o kn xs =>
    obtain ⟨a, vs, rfl, ra, la⟩ := hx.node s.sle
    have seq : ∀ {i : Int}, (ixI xs.length i).bind (fun j => xs[j]?) = some d → ∃ v, atI vs i = some v ∧ RpA W w R H d v := by
      intro i h
      cases e1 : ixI xs.length i with
      | none => rw [e1] at h; cases h
      | some j =>
        rw [e1] at h
        simp only [Option.bind_some] at h
        obtain ⟨v, e2, q2⟩ := la.get h
        refine ⟨v, ?_, q2⟩
        have e1' : ixN vs.length i = some j := by rw [← la.len]; exact e1
        show (ixN vs.length i).bind (fun j => vs[j]?) = some v
        rw [e1']; exact e2
    cases kn with
    | lst =>
      cases db with
      | int i =>
        obtain ⟨v, e, q2⟩ := seq h
        exact .inl ⟨a, vs, i, v, rfl, hy.int, ra.list, e, q v q2⟩
      | _ => simp [idxD] at h
    | slst =>
      cases db with
      | int i =>
        obtain ⟨v, e, q2⟩ := seq h
        exact .inl ⟨a, vs, i, v, rfl, hy.int, ra.slist, e, q v q2⟩
      | _ => simp [idxD] at h
    | tup =>
      cases db with
      | int i =>
        obtain ⟨v, e, q2⟩ := seq h
        exact .inr (.inl ⟨a, vs, i, v, rfl, hy.int, ra.tup, e, q v q2⟩)
      | _ => simp [idxD] at h
    | dK ks =>
      have h' : ((keyA db).bind fun k => findK k ks xs) = some d := by cases db <;> exact h
      cases ek : keyA db with
      | none => rw [ek] at h'; cases h'
      | some kk =>
        rw [ek] at h'
        simp only [Option.bind_some] at h'
        obtain ⟨p, r, e, gd, hf⟩ := dget_rep s ek hx hy
        rw [h'] at hf
        obtain ⟨v, rfl, q2⟩ := hf
        exact .inr (.inr (.inr ⟨p, v, e, gd, q v q2⟩))
    | dT ks =>
      have h' : ((keyT db).bind fun k => findK k ks xs) = some d := by cases db <;> exact h
      cases ek : keyT db with
      | none => rw [ek] at h'; cases h'
      | some kk =>
        rw [ek] at h'
        simp only [Option.bind_some] at h'
        obtain ⟨p, r, e, gd, hf⟩ := dgetT_rep s ek hx hy
        rw [h'] at hf
        obtain ⟨v, rfl, q2⟩ := hf
        exact .inr (.inr (.inr ⟨p, v, e, gd, q v q2⟩))
    | obj q ns => cases db <;> simp [idxD] at h
    | exc q => cases db <;> simp [idxD] at h
    | xd ns => cases db <;> simp [idxD] at h
  | _ => cases db <;> simp [idxD] at h
/-- a slice's parts stand within the brackets -/
def plainI : Expr → Bool
  | .Slice _ _ _ _ => false
  | .Tuple _ _ _ => true
  | .Constant _ _ _ => true
  | .Name _ _ => true
  | .BinOp _ _ _ _ => true
  | .UnaryOp _ _ _ => true
  | .Call _ _ _ _ => true
  | .Subscript _ _ _ => true
  | .Attribute _ _ _ => true
  | _ => false
theorem plainI_ix {e : Expr} (h : plainI e = true) : PlainIx e := by
  intro o i
  cases e <;> first | rfl | (simp [plainI] at h)
end
end VS
/-! VS15: a[i], a.f, calls of built-in functions. -/
namespace VS
open PySem PySem.Spec L2
open PyProof.Rows hiding St
section
variable {W : Wd} {F : Cl} {c : Ck} {X : Cx} {E : L2.WX} {w w1 w2 : Wh} {H H1 H2 : Hp} {R Ra Rb : Own} {σ : L2.St} {st : Sg} {Q : VK}
/-- a thing that isn't held alone, handed on -/
theorem PostE.okA {d : D} {v : V} (h : PostE W w H σ Q E (.ok d st)) (al : d.al = true) (fr : Fr w H w1 Ra H1) (s : SRep W w1 H1 σ st) (hv : RpA W w1 R H1 d v) : Q v H1 := by
  refine h w1 noR H1 v fr.noR s ?_
  obtain ⟨r, p, hv | hv⟩ := hv
  · exact Rp.alw (w := w1) (w' := w1.wth noR) (fun h => h) (fun _ _ h => h) al hv
  · exact Rp.alw (w := w1.wth R) (w' := w1.wth noR) (fun h => h) (fun _ _ h => h) al hv
theorem snd_idx {a i : CE} {m : Md} {ea ei : Expr} {p : Pos} (g : Gd W F c X E) (Sa : Snd W F a E X ea) (Si : Snd W F i E X ei) (hp : plainI ei = true) : Snd W F (.idx a i m) E X (.Subscript ea ei p) := by
  obtain ⟨ta, tb, pa, pb, rd⟩ := two_snd g Sa Si
  obtain ⟨r, ho, hr⟩ := idx_snd (W := W) (X := X) g.un
  have hv : PE X (.Subscript ea ei p) (semE W F E (.idx a i m)) := peW (pe_ix ho pa pb (plainI_ix hp)) fun σ H Q h => by
    obtain ⟨w, st, s, h⟩ := h
    refine rd r σ H Q w st _ s (PostR.ofE h) fun x y H2 w2 Rb da db st2 f2 s2 hx hy h2 => ?_
    obtain ⟨d, e, h3⟩ := PostR.of (PostR.ofE h2)
    refine hr e s2 (hx.drf s2) hy fun v hv => ?_
    by_cases al : d.al = true
    · rw [if_pos al] at h3; exact h3.okA al f2 s2 hv
    · rw [if_neg al] at h3; exact h3.elim
  refine ⟨hv, PT.of_v g hv rfl fun _ => rfl, fun z => ?_, (fun _ _ z => by cases z), rfl⟩
  simp only [CE.isPk, Bool.and_eq_true] at z
  refine peW (pe_ix ho (Sa.p z.1) (Si.p z.2) (plainI_ix hp)) fun σ H Q h => ?_
  obtain ⟨w, st, d, s, e, h⟩ := h
  have e' : ((pk F a st).bind fun x => (pk F i st).bind fun k => idxD (drf st.m x) k) = some d := e
  cases ea' : pk F a st with
  | none => rw [ea'] at e'; cases e'
  | some da =>
    rw [ea'] at e'
    cases ei' : pk F i st with
    | none => rw [ei'] at e'; cases e'
    | some di =>
      rw [ei'] at e'
      exact ⟨w, st, da, s, ea', fun x hx => ⟨w, st, di, s, ei', fun y hy => hr e' s (hx.drf s) hy h⟩⟩
/-- a field's look-up, by data -/
theorem sn_inj {a b : String} (h : sn a = sn b) : a = b := by
  have h2 : (sn a).cps.toList = (sn b).cps.toList := by rw [h]
  unfold sn at h2
  rw [PySem.Str.ofString_eq_toList, PySem.Str.ofString_eq_toList] at h2
  simp only at h2
  have h3 : a.toList.map Char.toNat = b.toList.map Char.toNat := by simpa using h2
  have inj : ∀ x y : Char, x.toNat = y.toNat → x = y := fun x y q => by
    have : x.val = y.val := UInt32.toNat_inj.mp q
    exact Char.ext this
  have : a.toList = b.toList := by
    generalize a.toList = l1 at h3
    generalize b.toList = l2 at h3
    induction l1 generalizing l2 with
    | nil => cases l2 with
      | nil => rfl
      | cons => simp at h3
    | cons x l1 ih => cases l2 with
      | nil => simp at h3
      | cons y l2 =>
        simp only [List.map_cons, List.cons.injEq] at h3
        rw [inj _ _ h3.1, ih l2 h3.2]
  exact String.ext this
theorem field_rep (f : String) : ∀ {ns : List String} {xs : List D} {vs : List V} {d : D}, ns.length = vs.length → RpAL W w R H xs vs → findF f ns xs = some d → ∃ v, List.lookup (sn f) (zipK (ns.map sn) vs) = some v ∧ RpA W w R H d v
  | [], xs, vs, d, _, _, h => by simp [findF] at h
  | n :: ns, [], vs, d, _, _, h => by simp [findF] at h
  | n :: ns, x :: xs, vs, d, e, h, k => by
    simp only [RpAL] at h
    obtain ⟨v, s, rfl, q, t⟩ := h
    simp only [findF] at k
    by_cases hn : n = f
    · rw [if_pos hn] at k
      cases k
      exact ⟨v, by rw [hn, List.map_cons, zipK]; simp [List.lookup], q⟩
    · rw [if_neg hn] at k
      obtain ⟨v2, e2, q2⟩ := field_rep f (ns := ns) (xs := xs) (vs := s) (by simpa using e) t k
      have ne : (sn f == sn n) = false := by
        rw [beq_eq_false_iff_ne]; exact fun z => hn (sn_inj z).symm
      exact ⟨v2, by rw [List.map_cons, zipK, List.lookup, ne]; exact e2, q2⟩
theorem fld_snd {f : String} (g : Gd W F c X E) (hf : f ∈ c.fl) {da d : D} {x : V} {K : VK} (h : fldD da f = some d) (s : SRep W w H σ st) (hx : RpA W w R H da x) (q : ∀ v, RpA W w R H d v → K v H) :
    (∃ a C dx fs v, x = .ref a ∧ H a = some (.ins C dx fs) ∧ Cls X.K C ∧ NoAttr X.K C (sn f) ∧ fs.lookup (sn f) = some v ∧ K v H) ∨
      ∃ a C fs v, x = .ref a ∧ ExcAt H a C fs ∧ XfC X.K C ∧ PySem.W.findIn X.K (.ref C) (sn f) = some none ∧ fs.lookup (sn f) = some v ∧ K v H := by
  cases da with
  | node o kn xs =>
    cases kn with
    | obj k ns =>
      obtain ⟨a, vs, rfl, ⟨ho, hr, hm⟩, la⟩ := hx.node s.sle
      obtain ⟨dx, rfl, hl, _, hc⟩ := hm
      obtain ⟨v, e, qv⟩ := field_rep f hl la h
      exact .inl ⟨a, _, dx, _, v, rfl, hr.2 rfl, g.cls k hc, g.na k hc f hf, e, q v qv⟩
    | exc k =>
      match xs, h, hx with
      | [.node o2 (.xd ns) ys], h, hx =>
        obtain ⟨a, vs, rfl, ⟨ho, hr, hm⟩, la⟩ := hx.node s.sle
        obtain ⟨oe, dd, rfl, rfl, h1, h2, h3, hc⟩ := hm
        simp only [RpAL] at la
        obtain ⟨v0, r0, e0, q0, _⟩ := la
        cases e0
        obtain ⟨a2, vs2, e2, ⟨ho2, hr2, hm2⟩, la2⟩ := q0.node s.sle
        cases e2
        obtain ⟨rfl, hl2⟩ := hm2
        obtain ⟨v, e, qv⟩ := field_rep f hl2 la2 h
        exact .inr ⟨a, _, _, v, rfl, ⟨oe, dd, hr.2 rfl, h1, h2, h3, hr2.2 rfl⟩, g.isi.xf k hc, g.nax k hc f hf, e, q v qv⟩
    | _ => simp [fldD] at h
  | _ => simp [fldD] at h
theorem base_plain {e : Expr} {f : Str} {env : Env} {w : Sem Value} (h : (match e with | .Call (.Name x _) [] [] _ => false | _ => true) = true) : attributeBase e f env w = w := by
  unfold attributeBase
  split
  · simp at h
  · rfl
/-- its attribute is read off it alone -/
def plainA : Expr → Bool
  | .Call (.Name _ _) [] [] _ => false
  | _ => true
theorem plainA_base {e : Expr} {f : Str} {env : Env} {w : Sem Value} (h : plainA e = true) : attributeBase e f env w = w := by
  unfold attributeBase
  split
  · simp [plainA] at h
  · rfl
theorem snd_fld {a : CE} {f : String} {m : Md} {ea : Expr} {p : Pos} (g : Gd W F c X E) (Sa : Snd W F a E X ea) (hf : f ∈ c.fl) (hp : plainA ea = true) : Snd W F (.fld a f m) E X (.Attribute ea (sn f) p) := by
  have hv : PE X (.Attribute ea (sn f) p) (semE W F E (.fld a f m)) := peW (pe_fldX (snd_opd Sa) (plainA_base hp)) fun σ H Q h => by
    obtain ⟨w, st, s, h⟩ := h
    refine opd_read (Fr.refl w H) s (PostR.ofE h) fun x H2 w2 Rb da st2 _ f2 s2 hx h2 => ?_
    obtain ⟨d, e, h3⟩ := PostR.of (PostR.ofE h2)
    refine fld_snd g hf e s2 (hx.drf s2) fun v hv => ?_
    by_cases al : d.al = true
    · rw [if_pos al] at h3; exact h3.okA al f2 s2 hv
    · rw [if_neg al] at h3; exact h3.elim
  refine ⟨hv, PT.of_v g hv rfl fun _ => rfl, fun z => ?_, (fun _ _ z => by cases z), rfl⟩
  refine peW (pe_fldX (Sa.p z) (plainA_base hp)) fun σ H Q h => ?_
  obtain ⟨w, st, d, s, e, h⟩ := h
  have e' : ((pk F a st).bind fun x => fldD (drf st.m x) f) = some d := e
  cases ea' : pk F a st with
  | none => rw [ea'] at e'; cases e'
  | some da =>
    rw [ea'] at e'
    exact ⟨w, st, da, s, ea', fun x hx => fld_snd g hf e' s (hx.drf s) h⟩
end
end VS
/-! VS15b: texts of numbers, numbers of texts, where a sign stands. -/
namespace VS
open PySem PySem.Spec L2
open PyProof.Rows hiding St
theorem digitChar_nat (d : Nat) (h : d < 10) : (Nat.digitChar d).toNat = 48 + d := by
  have : d = 0 ∨ d = 1 ∨ d = 2 ∨ d = 3 ∨ d = 4 ∨ d = 5 ∨ d = 6 ∨ d = 7 ∨ d = 8 ∨ d = 9 := by omega
  rcases this with rfl | rfl | rfl | rfl | rfl | rfl | rfl | rfl | rfl | rfl <;> rfl
theorem core_digs : ∀ (f fuel n : Nat) (ds : List Char), n < 10 ^ (f + 1) → n < fuel → (Nat.toDigitsCore 10 fuel n ds).map Char.toNat = digs (f + 1) n ++ ds.map Char.toNat
  | f, 0, n, ds, _, h => absurd h (Nat.not_lt_zero _)
  | f, fuel + 1, n, ds, hn, hf => by
    unfold Nat.toDigitsCore digs
    by_cases h : n < 10
    · have e : n / 10 = 0 := by omega
      have e2 : n % 10 = n := by omega
      simp [h, e, e2, digitChar_nat n h]
    · have e : n / 10 ≠ 0 := by omega
      cases f with
      | zero => simp at hn; omega
      | succ f =>
        have := core_digs f fuel (n / 10) (Nat.digitChar (n % 10) :: ds) (by rw [Nat.pow_succ] at hn; omega) (by omega)
        simp only [e, h, if_false]
        rw [this]
        simp [digitChar_nat (n % 10) (by omega)]
theorem nat_digs (n : Nat) (h : n < 10 ^ 1000) : (toString n).toList.map Char.toNat = digs 1000 n := by
  show (Nat.repr n).toList.map Char.toNat = _
  unfold Nat.repr Nat.toDigits
  have := core_digs 999 (n + 1) n [] h (by omega)
  simpa using this
theorem log_lt {n : Nat} (h : n.log2 < 1920) : n < 10 ^ 1000 := by
  have h1 : n < 2 ^ 1920 := by
    by_cases h0 : n = 0
    · subst h0; exact Nat.two_pow_pos _
    · exact (Nat.log2_lt h0).mp h
  exact Nat.lt_of_lt_of_le h1 (by decide)
theorem str_int (i : Int) (h : i.natAbs.log2 < 1920) : Str.ofString (toString i) = cps (strI i) := by
  apply Str.ext'
  apply Array.toList_inj.mp
  have e : (Str.ofString (toString i)).cps.toList = (toString i).toList.map Char.toNat := PyProof.Rows.signs_ofString _
  rw [e]
  show (Int.repr i).toList.map Char.toNat = strI i
  unfold strI
  cases i with
  | ofNat n =>
    have := nat_digs n (log_lt h)
    have h0 : ¬ (Int.ofNat n < 0) := by simp
    rw [if_neg h0]
    exact this
  | negSucc n =>
    have := nat_digs (n + 1) (log_lt h)
    rw [if_pos (Int.negSucc_lt_zero n)]
    show ("-" ++ Nat.repr (n + 1)).toList.map Char.toNat = _
    rw [String.toList_append, List.map_append]
    show 45 :: _ = 45 :: digs 1000 (n + 1)
    rw [← this]
    rfl
theorem numL_val : ∀ (l : List Nat) (a : Nat), l.foldl (fun acc c => acc * 10 + (c - 48)) a = numL l a
  | [], _ => rfl
  | c :: r, a => by
    rw [List.foldl_cons, numL_val r, numL, Nat.mul_comm]
theorem int_text {l : List Nat} (h : isDigs l = true) (hl : l.length ≤ 600) : PySem.intText? (cps l) = some ((numL l 0 : Nat) : Int) := by
  unfold isDigs at h
  simp at h
  have := PySem.intText_digits (x := cps l) (by intro c hc; exact h.2 c (by simpa using hc)) (by simpa using h.1) (by rw [cps_len]; omega)
  rw [this]
  congr 2
  exact numL_val l 0
/-- where a sign stands first -/
theorem at_one (l : List Nat) (c i : Nat) : PySem.StrLaws.At (cps l) (cps [c]) (cps l).length i ↔ l[i]? = some c := by
  have := PySem.StrLaws.subAt_one (cps l) c i
  simpa [PySem.StrLaws.At] using this
theorem fst_at (l : List Nat) (c : Nat) : (Builtin.Str.occurrences (cps l) (cps [c]) 0 (cps l).length 1).head? = l.findIdx? (· == c) := by
  rcases PySem.StrLaws.occ_head (cps l) (cps [c]) 1 (Nat.le_refl _) with ⟨e, h⟩ | ⟨i, r, e, h1, h2⟩
  · rw [e]
    symm
    rw [List.head?_nil, List.findIdx?_eq_none_iff]
    intro x hx
    obtain ⟨i, hi, rfl⟩ := List.mem_iff_getElem.mp hx
    have := h i
    rw [at_one, List.getElem?_eq_getElem hi] at this
    simpa using this
  · rw [e, List.head?_cons]
    symm
    rw [at_one] at h1
    obtain ⟨hi, hx⟩ := List.getElem?_eq_some_iff.mp h1
    rw [List.findIdx?_eq_some_iff_getElem]
    refine ⟨hi, by simpa using hx, fun j hj => ?_⟩
    have := h2 j hj
    rw [at_one, List.getElem?_eq_getElem (by omega)] at this
    simpa using this
theorem find_one (l : List Nat) (c : Nat) : Txt.find (cps l) (cps [c]) = findS c l := by
  unfold Txt.find findS
  rw [← fst_at l c]
  cases Builtin.Str.occurrences (cps l) (cps [c]) 0 (cps l).length 1 <;> rfl
theorem sub_cps (l : List Nat) (a b : Nat) : Builtin.Str.strSub (cps l) a b = cps ((l.drop a).take (b - a)) := by
  apply Str.ext'
  apply Array.toList_inj.mp
  rw [PySem.StrLaws.strSub_toList]
theorem part_one (l : List Nat) (c : Nat) : Txt.partition (cps l) (cps [c]) = (cps (partS c l).1, cps (partS c l).2.1, cps (partS c l).2.2) := by
  unfold Txt.partition partS
  have := fst_at l c
  cases e : Builtin.Str.occurrences (cps l) (cps [c]) 0 (cps l).length 1 with
  | nil =>
    rw [e] at this
    rw [← this]
    rfl
  | cons i r =>
    rw [e] at this
    rw [← this]
    simp only [List.head?_cons, sub_cps, cps_len, List.length_cons, List.length_nil, List.drop_zero, Nat.sub_zero]
    rw [List.take_of_length_le (l := List.drop (i + (0 + 1)) l) (by simp)]
end VS
/-! VS15c: dicts with tuple keys: how long; their keys come into the shared part. -/
namespace VS
open PySem PySem.Spec L2
open PyProof.Rows hiding St
theorem call_lenT {X : Cx} : CallR X (.builtin "len") (fun xs H Q => ∃ a kvs, xs = [V.ref a] ∧ Rd H a (.dT kvs) ∧ Q (.int kvs.length) H) := by
  intro pins s σ H xs us Q I r h
  obtain ⟨p, kvs, rfl, hp, q⟩ := h
  obtain ⟨u, rfl, rx⟩ := vals1 r
  obtain rfl : u = .ref p := rx
  obtain ⟨z, hd, ys, rel, dd⟩ := dt_rd I.hok hp
  have hl := Paired.length rel
  have lim : (ys.length : Int) < 2 ^ 63 := by
    rw [← hl]
    have := sizeLine_eq
    omega
  refine call_len_dictH hd dd lim ?_
  rw [← hl]
  exact ⟨.int kvs.length, H, I.tok _, ⟨_, rfl⟩, q⟩
section
variable {W : Wd} {w w1 : Wh} {H H1 : Hp} {R R1 : Own} {σ : L2.St} {st : Sg}
/-- keys' tuples come into the shared part -/
def keyW (w1 : Wh) (H1 : Hp) (bs : List Addr) : Wh := ⟨fun a => if a ∈ bs then H1 a else w1.S a, w1.own, w1.io⟩
theorem kv_kt (k : List L2.Key) : ktO (.tup (k.map kV)) = true := by
  show (k.map kV).all isKV = true
  rw [List.all_eq_true]
  intro v hv
  obtain ⟨x, _, rfl⟩ := List.mem_map.mp hv
  cases x <;> rfl
theorem nLv_key {H : Hp} {a : Addr} {k : List L2.Key} (h : H a = some (.tup (k.map kV))) : ¬ Lv H a := fun ⟨u, e, q⟩ => by
  rw [h] at e; cases e
  rw [kv_kt] at q; cases q
theorem keyW_le {bs : List Addr} (sle : ∀ a u, w1.S a = some u → RdX H1 a u) (hb : ∀ b ∈ bs, ∃ k : List L2.Key, H1 b = some (.tup (k.map kV))) : SLe w1.S (keyW w1 H1 bs).S := fun a u h => by
  show (if a ∈ bs then H1 a else w1.S a) = some u
  split
  · rename_i hm
    obtain ⟨k, hk⟩ := hb a hm
    have := sle a u h
    rcases this.1 with e | ⟨z, e⟩
    · exact e
    · rw [hk] at e; cases e
  · exact h
theorem key_grow {bs : List Addr} (fr : Fr w H w1 R1 H1) (s : SRep W w1 H1 σ st) (hb : ∀ b ∈ bs, ∃ k : List L2.Key, H1 b = some (.tup (k.map kV))) :
    Fr w H (keyW w1 H1 bs) R1 H1 ∧ SRep W (keyW w1 H1 bs) H1 σ st := by
  have le := keyW_le s.sle hb
  have kp : ∀ r, Kp w1 (keyW w1 H1 bs) H1 H1 r r := fun r => ⟨le, fun _ _ h => h, fun _ _ h => h, fun _ _ _ _ h => h⟩
  refine ⟨⟨fr.S.trans le, fr.io, fr.dom, fr.domR, fun x h => ?_, fr.keep, fun x h => ⟨(fr.R x h).1, ?_, (fr.R x h).2.2⟩⟩, ⟨fun a u h => ?_, fun a t h => ⟨?_, (s.sno a t h).2⟩, s.iol, fun n d h => ?_, fun i d h => ?_, s.len⟩⟩
  · by_cases hm : x ∈ bs
    · obtain ⟨k, hk⟩ := hb x hm
      exact .inr (fr.nlv (nLv_key hk))
    · exact fr.Sd x (by have h' : (if x ∈ bs then H1 x else w1.S x) ≠ none := h; rwa [if_neg hm] at h')
  · show (if x ∈ bs then H1 x else w1.S x) = none
    rw [if_neg (fun hm => by obtain ⟨k, hk⟩ := hb x hm; exact nLv_key hk (fr.R x h).2.2)]
    exact (fr.R x h).2.1
  · have h' : (if a ∈ bs then H1 a else w1.S a) = some u := h
    split at h'
    · exact RdX.of h'
    · exact s.sle a u h'
  · show (if a ∈ bs then H1 a else w1.S a) = none
    rw [if_neg (fun hm => by obtain ⟨k, hk⟩ := hb a hm; exact nLv_key hk (s.sno a t h).2)]
    exact (s.sno a t h).1
  · obtain ⟨a, e, q⟩ := s.cel n d h
    exact ⟨a, e, Rp.mono (kp _) q⟩
  · obtain ⟨v, e, q⟩ := s.slo i d h
    exact ⟨v, e, Rp.mono (kp _) q⟩
theorem unA_rp {S : Hp} (k : KA) : RpS W S (unA k) (kV (keyK k)) := by
  cases k with
  | i n => exact rpS_int _
  | s l => exact rpS_str _
theorem unAs_rp {S : Hp} : ∀ (k : List KA), RpSL W S (k.map unA) ((k.map keyK).map kV)
  | [] => by simp [RpSL]
  | k :: r => by simp only [List.map_cons, RpSL]; exact ⟨_, _, rfl, unA_rp k, unAs_rp r⟩
/-- a key as a thing -/
def unT (k : List KA) : D := .node false .tup (k.map unA)
theorem unT_rp {bs : List Addr} {b : Addr} {k : List KA} (hm : b ∈ bs) (hk : H1 b = some (.tup ((k.map keyK).map kV))) : RpS W (keyW w1 H1 bs).S (unT k) (.ref b) := by
  simp only [unT, RpS]
  refine ⟨trivial, b, _, rfl, ⟨_, ?_, rfl⟩, unAs_rp k⟩
  show (if b ∈ bs then H1 b else w1.S b) = _
  rw [if_pos hm]; exact hk
theorem zipK_paired {P : List L2.Key × V → Addr → Prop} : ∀ {ks : List (List KA)} {us : List V} {bs : List Addr}, ks.length = us.length → Paired P (zipK (ks.map fun k => k.map keyK) us) bs → Paired (fun k b => ∃ v, P (k.map keyK, v) b) ks bs
  | [], us, bs, hl, h => by
    cases us with
    | nil => cases h; exact .nil
    | cons => simp at hl
  | k :: ks, [], bs, hl, h => by simp at hl
  | k :: ks, u :: us, bs, hl, h => by
    simp only [List.map_cons, zipK] at h
    cases h with
    | cons a r => exact .cons ⟨_, a⟩ (zipK_paired (by simpa using hl) r)
theorem keys_rp {bs : List Addr} : ∀ {ks : List (List KA)} {cs : List Addr}, (∀ c ∈ cs, c ∈ bs) → Paired (fun k b => ∃ v : V, H1 b = some (.tup ((k.map keyK, v).1.map kV))) ks cs → RpSL W (keyW w1 H1 bs).S (ks.map unT) (cs.map V.ref)
  | [], cs, hs, h => by cases h; simp [RpSL]
  | k :: ks, cs, hs, h => by
    cases h with
    | @cons _ c _ bs2 a r =>
      simp only [List.map_cons, RpSL]
      obtain ⟨v, hv⟩ := a
      exact ⟨_, _, rfl, unT_rp (hs _ (by simp)) hv, keys_rp (fun c hc => hs c (by simp [hc])) r⟩
theorem paired_mem {P : List L2.Key × V → Addr → Prop} : ∀ {kvs : List (List L2.Key × V)} {bs : List Addr}, Paired P kvs bs → ∀ b ∈ bs, ∃ kv, P kv b
  | [], bs, h, b, hb => by cases h; simp at hb
  | kv :: r, bs, h, b, hb => by
    cases h with
    | cons a q =>
      simp only [List.mem_cons] at hb
      rcases hb with rfl | hb
      · exact ⟨kv, a⟩
      · exact paired_mem q b hb
end
end VS
/-! VS15d: repr of data. -/
namespace VS
open PySem PySem.Spec L2
open PyProof.Rows hiding St
/-- repr of a thing that reads as data -/
theorem call_repr_reads {prog : Program} {w : World} {v : Value} {d : PyData} {as : List Addr} {A : Around} {E : Value → Shared → Prop} {s : Shared} {Q : Value → Shared → Prop} (r : Reads s.heap v d as) (hs : d.showable = true) (hsm : d.hasDict = true → ¬ sysModules ∈ as) (hg : A.guards = some [])
    (hu : A.units + d.depth + 2 < cLine) (hsz : d.shown.length ≤ sizeLine)
    (hQ : ∀ (h' : Heap) (u : Tok) (tk : Nat), (∀ (b : Addr) (o : Obj), s.heap.get? b = some o → h'.get? b = some o) → Q (Value.str d.shown u) { heap := h', gens := s.gens, drawn := s.drawn, toks := tk, os := s.os }) :
    wpAny (model prog w) A (call (Value.builtin "repr") [v]) Q E s := by
  have idk : ∀ (b : Addr) (o : Obj), s.heap.get? b = some o → s.heap.get? b = some o := fun _ _ h => h
  have big : ∀ {a : Addr}, Reads s.heap (.ref a) d as → wpAny (model prog w) A (call (Value.builtin "repr") [.ref a]) Q E s := fun {a} r => by
    obtain ⟨T, idr, S⟩ := showsBy_of_reads (prog := prog) (w := w) r hs hsm hsz
    exact call_repr_slot (by omega) (S.typeIs s idk) S.slotRepr (S.call A.in1 E s _ hg (by show A.units + 1 + d.depth < cLine; omega) idk fun h' u tk hk => ⟨d.shown, u, rfl, hQ h' u tk hk⟩)
  cases r with
  | none => exact call_repr_gives (typeIs_none s) F.slot_NoneType_repr F.entry_NoneType_repr (F.args_NoneType_repr_1 Value.none) gives_none_repr (hQ s.heap s.toks _ idk) rfl hsz
  | bool b => exact call_repr_gives (PySem.typeIs_bool s b) F.slot_bool_repr F.entry_bool_repr (F.args_bool_repr_1 (Value.bool b)) (gives_bool_repr b) (hQ s.heap s.toks _ idk) rfl hsz
  | int i t =>
    have hi : i.natAbs.log2 < 1920 := by simpa [PyData.showable] using hs
    exact call_repr_gives (typeIs_int s i t) F.slot_int_repr F.entry_int_repr (F.args_int_repr_1 (Value.int i t)) (gives_int_repr i t hi) (hQ s.heap s.toks _ idk) rfl hsz
  | str x t => exact call_repr_gives (typeIs_str s x t) F.slot_str_repr F.entry_str_repr (F.args_str_repr_1 (Value.str x t)) (gives_str_repr x t) (hQ s.heap s.toks _ idk) rfl hsz
  | list h1 h2 h3 h4 => exact big (.list h1 h2 h3 h4)
  | tuple h1 h2 h3 h4 => exact big (.tuple h1 h2 h3 h4)
  | dict h1 h2 h3 h4 h5 => exact big (.dict h1 h2 h3 h4 h5)
theorem isInt_inv {n : Int} {v : Value} (h : Value.isInt n v = true) : ∃ t, v = .int n t := by
  unfold Value.isInt at h
  split at h
  · rename_i k i t
    exact ⟨t, by rw [beq_iff_eq.mp h]⟩
  · cases h
theorem isStr_inv {x : Str} {v : Value} (h : Value.isStrOf x v = true) : ∃ t, v = .str x t := by
  unfold Value.isStrOf at h
  split at h
  · rename_i k i t
    exact ⟨t, by rw [beq_iff_eq.mp h]⟩
  · cases h
theorem readsAll_scal {h : Heap} : ∀ {ks : List KA} {vs : List Value}, Paired (fun k v => keyIs (keyK k) v = true) ks vs → ReadsAll h vs (ks.map datK) []
  | [], vs, p => by cases p; exact .nil
  | k :: ks, vs, p => by
    cases p with
    | @cons _ v _ vs' a r =>
      have : Reads h v (datK k) [] := by
        cases k with
        | i n =>
          have a' : Value.isInt n v = true := a
          obtain ⟨t, rfl⟩ := isInt_inv a'
          exact .int _ _
        | s l =>
          have a' : Value.isStrOf (cps l) v = true := a
          obtain ⟨t, rfl⟩ := isStr_inv a'
          exact .str _ _
      exact ReadsAll.cons this (readsAll_scal r)
section
variable {W : Wd} {w : Wh} {H : Hp} {R : Own} {σ : L2.St} {st : Sg} {X : Cx} {pins : List (Addr × Obj)} {s : Shared}
theorem pairs_keys {P : Program} {wd : World} : ∀ {es : List DictEntry} {kvs : List (L2.Key × Value)} {ks : List KA}, Pairs (mixKind P wd) es kvs → kvs.map (·.1) = ks.map keyK → Paired (fun k v => keyIs (keyK k) v = true) ks (es.map fun x => x.key)
  | [], _, [], .nil, _ => .nil
  | [], _, _ :: _, .nil, h => by simp at h
  | e :: es, kv :: kvs, [], .cons _ _ _, h => by simp at h
  | e :: es, kv :: kvs, k :: ks, .cons a _ r, h => by
    simp only [List.map_cons, List.cons.injEq] at h
    refine .cons ?_ (pairs_keys r h.2)
    rw [← h.1]; exact a
theorem pairs_vals {P : Program} {wd : World} : ∀ {es : List DictEntry} {kvs : List (L2.Key × Value)}, Pairs (mixKind P wd) es kvs → es.map (fun x => x.val) = kvs.map (·.2)
  | [], _, .nil => rfl
  | e :: es, kv :: kvs, .cons _ b r => by simp only [List.map_cons, b, pairs_vals r]
theorem zip_fst {ks : List PyData} : ∀ {ys : List PyData}, ks.length = ys.length → (ks.zip ys).map (fun x => x.fst) = ks := by
  induction ks with
  | nil => intro ys h; rfl
  | cons k ks ih =>
    intro ys h
    cases ys with
    | nil => simp at h
    | cons y ys => simp only [List.zip_cons_cons, List.map_cons]; rw [ih (by simpa using h)]
theorem zip_snd {ks : List PyData} : ∀ {ys : List PyData}, ks.length = ys.length → (ks.zip ys).map (fun x => x.snd) = ys := by
  induction ks with
  | nil => intro ys h; cases ys with | nil => rfl | cons => simp at h
  | cons k ks ih =>
    intro ys h
    cases ys with
    | nil => simp at h
    | cons y ys => simp only [List.zip_cons_cons, List.map_cons]; rw [ih (by simpa using h)]
theorem datL_len : ∀ {xs : List D} {ys : List PyData}, datL xs = some ys → xs.length = ys.length
  | [], ys, h => by simp only [datL, Option.some.injEq] at h; subst h; rfl
  | x :: r, ys, h => by
    simp only [datL] at h
    cases e1 : datD x with
    | none => rw [e1] at h; cases h
    | some y =>
      rw [e1] at h
      cases e2 : datL r with
      | none => rw [e2] at h; cases h
      | some zs =>
        rw [e2] at h
        simp only [Option.bind_some, Option.map_some, Option.some.injEq] at h
        subst h
        simp only [List.length_cons, datL_len e2]
theorem kv_fst : ∀ {kvs : List (L2.Key × V)} {ps : List (L2.Key × Value)}, KV kvs ps → ps.map (·.1) = kvs.map (·.1)
  | [], _, h => by cases h; rfl
  | kv :: r, _, h => by
    cases h with
    | cons a q => simp only [List.map_cons, kv_fst q, a.1]
theorem kv_snd : ∀ {kvs : List (L2.Key × V)} {ps : List (L2.Key × Value)}, KV kvs ps → Vals (kvs.map (·.2)) (ps.map (·.2))
  | [], _, h => by cases h; exact .nil
  | kv :: r, _, h => by
    cases h with
    | cons a q => exact .cons a.2 (kv_snd q)
theorem zipK_snd2 {ks : List L2.Key} : ∀ {us : List V}, ks.length = us.length → (zipK ks us).map (·.2) = us := by
  induction ks with
  | nil => intro us h; cases us with | nil => rfl | cons => simp at h
  | cons k ks ih =>
    intro us h
    cases us with
    | nil => simp at h
    | cons u us => simp only [zipK, List.map_cons]; rw [ih (by simpa using h)]
theorem zipK_fst2 {ks : List L2.Key} : ∀ {us : List V}, ks.length = us.length → (zipK ks us).map (·.1) = ks := by
  induction ks with
  | nil => intro us h; rfl
  | cons k ks ih =>
    intro us h
    cases us with
    | nil => simp at h
    | cons u us => simp only [zipK, List.map_cons]; rw [ih (by simpa using h)]
mutual
theorem reads_of (I : Inv X pins σ H s) (sle : ∀ a u, w.S a = some u → RdX H a u) : ∀ {d : D} {v : V} {u : Value} {y : PyData}, datD d = some y → RpA W w R H d v → L2.RelV v u → ∃ as, Reads s.heap u y as ∧ (noLs d = true → ¬ sysModules ∈ as)
  | .non, v, u, y, e, h, r => by
    simp only [datD, Option.some.injEq] at e; subst e
    rw [h.non] at r
    have : u = .none := r
    subst this
    exact ⟨[], .none, fun _ => by simp⟩
  | .bl b, v, u, y, e, h, r => by
    simp only [datD, Option.some.injEq] at e; subst e
    rw [h.bl] at r
    have : u = .bool b := r
    subst this
    exact ⟨[], .bool b, fun _ => by simp⟩
  | .int i, v, u, y, e, h, r => by
    simp only [datD, Option.some.injEq] at e; subst e
    rw [h.int] at r
    obtain ⟨t, rfl⟩ := (r : ∃ t, u = .int i t)
    exact ⟨[], .int i t, fun _ => by simp⟩
  | .str l, v, u, y, e, h, r => by
    simp only [datD, Option.some.injEq] at e; subst e
    rw [h.str] at r
    obtain ⟨t, rfl⟩ := (r : ∃ t, u = .str (cps l) t)
    exact ⟨[], .str _ t, fun _ => by simp⟩
  | .cell n, v, u, y, e, h, r => by simp [datD] at e
  | .node o k xs, v, u, y, e, h, r => by
    obtain ⟨a, vs, rfl, ra, la⟩ := h.node sle
    have r' : u = .ref a := r
    subst r'
    cases k with
    | tup =>
      simp only [datD] at e
      cases el : datL xs with
      | none => rw [el] at e; cases e
      | some ys =>
        rw [el] at e
        simp only [Option.map_some, Option.some.injEq] at e; subst e
        obtain ⟨its, rv, ⟨ob, h1, h2, n, h3⟩, _⟩ := I.tuple (ra.tup (K := X.K))
        obtain ⟨as, q1, q2⟩ := readsL_of I sle el la rv
        exact ⟨as, .tuple h1 h2 h3 q1, fun hn => q2 (by simpa [noLs] using hn)⟩
    | lst =>
      simp only [datD] at e
      cases el : datL xs with
      | none => rw [el] at e; cases e
      | some ys =>
        rw [el] at e
        simp only [Option.map_some, Option.some.injEq] at e; subst e
        obtain ⟨its, rv, ⟨ob, n, h1, h2, _, h3⟩, _⟩ := I.list (ra.list (K := X.K))
        obtain ⟨as, q1, q2⟩ := readsL_of I sle el la rv
        exact ⟨a :: as, .list h1 h2 h3 q1, fun hn => by simp [noLs] at hn⟩
    | dK ks =>
      simp only [datD] at e
      cases el : datL xs with
      | none => rw [el] at e; cases e
      | some ys =>
        rw [el] at e
        simp only [Option.map_some, Option.some.injEq] at e; subst e
        obtain ⟨ho, hr2, hm⟩ := ra
        obtain ⟨rfl, l1, _⟩ := hm
        obtain ⟨_, hsy, ps, kv, ob, es, ep, h1, h2, h3, _, h5, _⟩ := dk_rd I.hok hr2.1
        have k1 := kv_fst kv
        have k2 := kv_snd kv
        rw [zipK_fst2 (by simpa using l1)] at k1
        rw [zipK_snd2 (by simpa using l1)] at k2
        obtain ⟨as, q1, q2⟩ := readsL_of I sle el la k2
        have hk := readsAll_scal (h := s.heap) (pairs_keys h5 k1)
        have hl : (ks.map datK).length = ys.length := by rw [List.length_map, l1, ← la.len, datL_len el]
        refine ⟨_, .dict h1 h2.1 h3 (by rw [zip_fst hl]; exact hk) (by rw [zip_snd hl, pairs_vals h5]; exact q1), fun hn => ?_⟩
        simp only [List.append_nil, List.cons_append, List.nil_append, List.mem_cons, not_or]
        exact ⟨fun z => by rw [← z] at hsy; simp at hsy, q2 (by simpa [noLs] using hn)⟩
    | _ => simp [datD] at e
theorem readsL_of (I : Inv X pins σ H s) (sle : ∀ a u, w.S a = some u → RdX H a u) : ∀ {xs : List D} {vs : List V} {us : List Value} {ys : List PyData}, datL xs = some ys → RpAL W w R H xs vs → Vals vs us → ∃ as, ReadsAll s.heap us ys as ∧ (noLsL xs = true → ¬ sysModules ∈ as)
  | [], vs, us, ys, e, h, r => by
    simp only [datL, Option.some.injEq] at e; subst e
    simp only [RpAL] at h; subst h
    cases r
    exact ⟨[], .nil, fun _ => by simp⟩
  | x :: xs, vs, us, ys, e, h, r => by
    simp only [datL] at e
    cases e1 : datD x with
    | none => rw [e1] at e; cases e
    | some y =>
      rw [e1] at e
      cases e2 : datL xs with
      | none => rw [e2] at e; cases e
      | some zs =>
        rw [e2] at e
        simp only [Option.bind_some, Option.map_some, Option.some.injEq] at e; subst e
        simp only [RpAL] at h
        obtain ⟨v, vs', rfl, q, t⟩ := h
        cases r with
        | cons a b =>
          obtain ⟨as, p1, p2⟩ := reads_of I sle e1 q a
          obtain ⟨bs, p3, p4⟩ := readsL_of I sle e2 t b
          refine ⟨as ++ bs, .cons p1 p3, fun hn => ?_⟩
          simp only [noLsL, Bool.and_eq_true] at hn
          simp only [List.mem_append, not_or]
          exact ⟨p2 hn.1, p4 hn.2⟩
end
/-- how repr is told -/
def rRepr (W : Wd) : List V → Hp → VK → Prop := fun vs H Q => ∃ (w : Wh) (R : Own) (d : D) (v : V) (l : List Nat), vs = [v] ∧ (∀ a u, w.S a = some u → RdX H a u) ∧ RpA W w R H d v ∧ repD d = some l ∧ Q (.str (cps l)) H
theorem call_reprD (hg : X.A.guards = some []) (hu : X.A.units + 200 < cLine) : CallR X (.builtin "repr") (rRepr W) := by
  intro pins s σ H vs us Q I r h
  obtain ⟨w, R, d, v, l, rfl, sle, hd, e, q⟩ := h
  obtain ⟨u, rfl, rx⟩ := vals1 r
  unfold repD at e
  cases ed : datD d with
  | none => rw [ed] at e; cases e
  | some y =>
    rw [ed] at e
    simp only [Option.bind_some] at e
    split at e
    · rename_i hc
      obtain ⟨c1, c2, c3, c4⟩ := hc
      simp only [Option.some.injEq] at e
      obtain ⟨as, r1, r2⟩ := reads_of I sle ed hd rx
      refine call_repr_reads r1 c1 (fun z => ?_) hg (by omega) (by rw [← LN_eq]; exact c4) fun h' t tk hk => ?_
      · rcases c2 with c2 | c2
        · rw [c2] at z; cases z
        · exact r2 c2
      · refine ⟨.str (cps l), H, I.kept (t' := tk) hk, ⟨t, ?_⟩, q⟩
        rw [← e]
    · cases e
end
end VS
/-! VS16: calls of built-in functions. -/
namespace VS
open PySem PySem.Spec L2
open PyProof.Rows hiding St
section
variable {W : Wd} {F : Cl} {c : Ck} {X : Cx} {E : L2.WX} {w w1 w2 : Wh} {H H1 H2 : Hp} {R Ra Rb : Own} {σ : L2.St} {st : Sg} {Q : VK}
theorem ints_rep : ∀ {xs : List D} {ns : List Int} {vs : List V}, ints? xs = some ns → RpAL W w R H xs vs → vs = ns.map V.int
  | [], ns, vs, e, h => by simp only [ints?, Option.some.injEq] at e; subst e; simpa only [RpAL, List.map_nil] using h
  | x :: xs, ns, vs, e, h => by
    simp only [RpAL] at h
    obtain ⟨v, s, rfl, q, t⟩ := h
    cases x with
    | int i =>
      simp only [ints?] at e
      cases er : ints? xs with
      | none => rw [er] at e; cases e
      | some r =>
        rw [er] at e
        simp only [Option.map_some, Option.some.injEq] at e
        subst e
        rw [q.int, ints_rep er t]; rfl
    | _ => simp [ints?] at e
theorem bls_rep : ∀ {xs : List D} {ns : List Bool} {vs : List V}, bls? xs = some ns → RpAL W w R H xs vs → vs = ns.map V.bl
  | [], ns, vs, e, h => by simp only [bls?, Option.some.injEq] at e; subst e; simpa only [RpAL, List.map_nil] using h
  | x :: xs, ns, vs, e, h => by
    simp only [RpAL] at h
    obtain ⟨v, s, rfl, q, t⟩ := h
    cases x with
    | bl i =>
      simp only [bls?] at e
      cases er : bls? xs with
      | none => rw [er] at e; cases e
      | some r =>
        rw [er] at e
        simp only [Option.map_some, Option.some.injEq] at e
        subst e
        rw [q.bl, bls_rep er t]; rfl
    | _ => simp [bls?] at e
theorem strs_rep : ∀ {xs : List D} {ns : List (List Nat)} {vs : List V}, strs? xs = some ns → RpAL W w R H xs vs → vs = ns.map fun s => V.str (cps s)
  | [], ns, vs, e, h => by simp only [strs?, Option.some.injEq] at e; subst e; simpa only [RpAL, List.map_nil] using h
  | x :: xs, ns, vs, e, h => by
    simp only [RpAL] at h
    obtain ⟨v, s, rfl, q, t⟩ := h
    cases x with
    | str i =>
      simp only [strs?] at e
      cases er : strs? xs with
      | none => rw [er] at e; cases e
      | some r =>
        rw [er] at e
        simp only [Option.map_some, Option.some.injEq] at e
        subst e
        rw [q.str, strs_rep er t]; rfl
    | _ => simp [strs?] at e
/-- how a call is told of data -/
def BlR (W : Wd) (E : L2.WX) (X : Cx) (r : List V → Hp → VK → Prop) (f : List D → Option D) : Prop :=
  ∀ {w w1 : Wh} {H H1 : Hp} {R Ra : Own} {σ : L2.St} {st : Sg} {ds : List D} {vs : List V} {d : D} {Q : VK}, f ds = some d → Fr w H w1 Ra H1 → SRep W w1 H1 σ st → RpAL W w1 R H1 ds vs → PostE W w H σ Q E (.ok d st) → r vs H1 Q
theorem RpAL.one {d : D} {vs : List V} (h : RpAL W w R H [d] vs) : ∃ v, vs = [v] ∧ RpA W w R H d v := by
  simp only [RpAL] at h
  obtain ⟨v, s, rfl, q, rfl⟩ := h
  exact ⟨v, rfl, q⟩
theorem RpAL.two {d e : D} {vs : List V} (h : RpAL W w R H [d, e] vs) : ∃ v u, vs = [v, u] ∧ RpA W w R H d v ∧ RpA W w R H e u := by
  simp only [RpAL] at h
  obtain ⟨v, s, rfl, q, u, t, rfl, q2, rfl⟩ := h
  exact ⟨v, u, rfl, q, q2⟩
theorem RpA.list {o : Bool} {xs : List D} {x : V} (K : PySem.W.Frag) (s : SRep W w H σ st) (h : RpA W w R H (.node o .lst xs) x) : ∃ a vs, x = .ref a ∧ SqL K H a vs ∧ RpAL W w R H xs vs := by
  obtain ⟨a, vs, rfl, ra, la⟩ := h.node s.sle
  exact ⟨a, vs, rfl, ra.list, la⟩
theorem RpA.tupl {o : Bool} {xs : List D} {x : V} (K : PySem.W.Frag) (s : SRep W w H σ st) (h : RpA W w R H (.node o .tup xs) x) : ∃ a vs, x = .ref a ∧ SqT K H a vs ∧ RpAL W w R H xs vs := by
  obtain ⟨a, vs, rfl, ra, la⟩ := h.node s.sle
  exact ⟨a, vs, rfl, ra.tup, la⟩
theorem maxL_is : ∀ (r : List Int) (n m : Int), m ∈ n :: r → (∀ y, y ∈ n :: r → y ≤ m) → m = maxL r n
  | [], n, m, h, _ => by simpa [maxL] using h
  | x :: r, n, m, h, k => by
    simp only [maxL]
    refine maxL_is r _ m ?_ ?_
    · have h1 := k n (by simp)
      have h2 := k x (by simp)
      simp only [List.mem_cons] at h ⊢
      split
      · rcases h with h | h | h
        · exact .inl (by omega)
        · exact .inl h
        · exact .inr h
      · rcases h with h | h | h
        · exact .inl h
        · exact .inl (by omega)
        · exact .inr h
    · intro y hy
      simp only [List.mem_cons] at hy
      rcases hy with rfl | hy
      · split
        · exact k _ (by simp)
        · exact k _ (by simp)
      · exact k _ (by simp [hy])
theorem minL_is : ∀ (r : List Int) (n m : Int), m ∈ n :: r → (∀ y, y ∈ n :: r → m ≤ y) → m = minL r n
  | [], n, m, h, _ => by simpa [minL] using h
  | x :: r, n, m, h, k => by
    simp only [minL]
    refine minL_is r _ m ?_ ?_
    · have h1 := k n (by simp)
      have h2 := k x (by simp)
      simp only [List.mem_cons] at h ⊢
      split
      · rcases h with h | h | h
        · exact .inl (by omega)
        · exact .inl h
        · exact .inr h
      · rcases h with h | h | h
        · exact .inl h
        · exact .inl (by omega)
        · exact .inr h
    · intro y hy
      simp only [List.mem_cons] at hy
      rcases hy with rfl | hy
      · split
        · exact k _ (by simp)
        · exact k _ (by simp)
      · exact k _ (by simp [hy])
/-- the name by which it is called; what stands there -/
def btN : Blt → Option (Str × Value)
  | .len => some ("len", .builtin "len")
  | .min2 => some ("min", .builtin "min")
  | .max2 => some ("max", .builtin "max")
  | .minL => some ("min", .builtin "min")
  | .maxL => some ("max", .builtin "max")
  | .sum => some ("sum", .builtin "sum")
  | .all => some ("all", .builtin "all")
  | .any => some ("any", .builtin "any")
  | .int1 => some ("int", .type "int")
  | .str1 => some ("str", .type "str")
  | .bool1 => some ("bool", .type "bool")
  | .repr1 => some ("repr", .builtin "repr")
  | .list1 => some ("list", .type "list")
  | .tuple1 => some ("tuple", .type "tuple")
  | _ => none
theorem zipK_lenA {α : Type} : ∀ {ks : List α} {vs : List V}, ks.length = vs.length → (zipK ks vs).length = vs.length
  | [], vs, h => by cases vs with | nil => rfl | cons => simp at h
  | k :: ks, [], h => by simp at h
  | k :: ks, v :: vs, h => by simp only [zipK, List.length_cons]; rw [zipK_lenA (by simpa using h)]
theorem zipK_fst {ks : List L2.Key} : ∀ {us : List V}, ks.length = us.length → (zipK ks us).map (fun kv => kV kv.1) = ks.map kV := by
  induction ks with
  | nil => intro us h; rfl
  | cons k ks ih =>
    intro us h
    cases us with
    | nil => simp at h
    | cons u us => simp only [zipK, List.map_cons]; rw [ih (by simpa using h)]
theorem call_lenK {X : Cx} : CallR X (.builtin "len") (fun xs H Q => ∃ a kvs, xs = [V.ref a] ∧ Rd H a (.dK kvs) ∧ Q (.int kvs.length) H) := by
  intro pins s σ H xs us Q I r h
  obtain ⟨a, kvs, rfl, hr, q⟩ := h
  obtain ⟨u, rfl, rx⟩ := vals1 r
  obtain rfl : u = .ref a := rx
  exact d_len I hr fun t s' I' => ⟨.int _, H, I', ⟨_, rfl⟩, q⟩
theorem callR_or {X : Cx} {f : Value} {r1 r2 : List V → Hp → VK → Prop} (h1 : CallR X f r1) (h2 : CallR X f r2) : CallR X f (fun xs H Q => r1 xs H Q ∨ r2 xs H Q) := by
  intro pins s σ H xs us Q I r h
  rcases h with h | h
  · exact h1 _ _ _ _ _ _ _ I r h
  · exact h2 _ _ _ _ _ _ _ I r h
theorem blt_snd (g : Gd W F c X E) (hcm : c.calm = true) {b : Blt} {x : Str} {f : Value} (hb : btN b = some (x, f)) : ∃ r, CallR X f r ∧ BlR W E X r (bltD b) := by
  cases b with
  | len =>
    simp only [btN, Option.some.injEq, Prod.mk.injEq] at hb; obtain ⟨rfl, rfl⟩ := hb
    refine ⟨_, callR_or (callR_or (call_len (X := X)) call_lenK) call_lenT, ?_⟩
    intro w w1 H H1 R Ra σ st ds vs d Q e fr s hr h
    match ds, e with
    | [d1], e =>
      obtain ⟨v, rfl, q⟩ := hr.one
      cases d1 with
      | str l =>
        simp only [bltD] at e
        split at e
        · rename_i hl
          cases e
          exact .inl <| .inl ⟨v, l.length, rfl, by rw [q.str]; exact ⟨by rw [cps_len, ← LN_eq]; exact hl, (cps_len l).symm⟩, h.scal fr s (rpS_int _)⟩
        · cases e
      | node o k xs =>
        cases k with
        | tup =>
          simp only [bltD, Option.some.injEq] at e; subst e
          obtain ⟨a, us, rfl, ra, la⟩ := q.tupl X.K s
          exact .inl <| .inl ⟨_, us.length, rfl, .inr ⟨us, ra, rfl⟩, by rw [← la.len]; exact h.scal fr s (rpS_int _)⟩
        | lst =>
          simp only [bltD, Option.some.injEq] at e; subst e
          obtain ⟨a, us, rfl, ra, la⟩ := q.list X.K s
          exact .inl <| .inl ⟨_, us.length, rfl, .inl ⟨us, ra, rfl⟩, by rw [← la.len]; exact h.scal fr s (rpS_int _)⟩
        | slst =>
          simp only [bltD, Option.some.injEq] at e; subst e
          obtain ⟨a, us, rfl, ra, la⟩ := q.node s.sle
          exact .inl <| .inl ⟨_, us.length, rfl, .inl ⟨us, ra.slist, rfl⟩, by rw [← la.len]; exact h.scal fr s (rpS_int _)⟩
        | dK ks =>
          simp only [bltD, Option.some.injEq] at e; subst e
          obtain ⟨a, us, rfl, ⟨ho, hr2, hm⟩, la⟩ := q.node s.sle
          obtain ⟨rfl, l1, _⟩ := hm
          refine .inl <| .inr ⟨a, _, rfl, hr2.1, ?_⟩
          rw [zipK_lenA (by simpa using l1), ← la.len]
          exact h.scal fr s (rpS_int _)
        | dT ks =>
          simp only [bltD, Option.some.injEq] at e; subst e
          obtain ⟨a, us, rfl, ⟨ho, hr2, hm⟩, la⟩ := q.node s.sle
          obtain ⟨rfl, l1, _⟩ := hm
          refine .inr ⟨a, _, rfl, hr2.1, ?_⟩
          rw [zipK_lenA (by simpa using l1), ← la.len]
          exact h.scal fr s (rpS_int _)
        | _ => simp [bltD] at e
      | _ => simp [bltD] at e
    | [], e => simp [bltD] at e
    | _ :: _ :: _, e => simp [bltD] at e
  | min2 =>
    simp only [btN, Option.some.injEq, Prod.mk.injEq] at hb; obtain ⟨rfl, rfl⟩ := hb
    refine ⟨_, call_min2 (g.calm hcm), ?_⟩
    intro w w1 H H1 R Ra σ st ds vs d Q e fr s hr h
    match ds, e with
    | [.int i, .int j], e =>
      simp only [bltD, Option.some.injEq] at e; subst e
      obtain ⟨v, u, rfl, q1, q2⟩ := hr.two
      exact ⟨i, j, by rw [q1.int, q2.int], h.scal fr s (rpS_int _)⟩
  | max2 =>
    simp only [btN, Option.some.injEq, Prod.mk.injEq] at hb; obtain ⟨rfl, rfl⟩ := hb
    refine ⟨_, call_max2 (g.calm hcm), ?_⟩
    intro w w1 H H1 R Ra σ st ds vs d Q e fr s hr h
    match ds, e with
    | [.int i, .int j], e =>
      simp only [bltD, Option.some.injEq] at e; subst e
      obtain ⟨v, u, rfl, q1, q2⟩ := hr.two
      exact ⟨i, j, by rw [q1.int, q2.int], h.scal fr s (rpS_int _)⟩
  | minL =>
    simp only [btN, Option.some.injEq, Prod.mk.injEq] at hb; obtain ⟨rfl, rfl⟩ := hb
    refine ⟨_, cr_min (g.calm hcm), ?_⟩
    intro w w1 H H1 R Ra σ st ds vs d Q e fr s hr h
    match ds, e with
    | [.node o .lst xs], e =>
      simp only [bltD] at e
      obtain ⟨v, rfl, q1⟩ := hr.one
      obtain ⟨a, us, rfl, ra, la⟩ := q1.list X.K s
      cases en : ints? xs with
      | none => rw [en] at e; cases e
      | some ns =>
        rw [en] at e
        have := ints_rep en la
        subst this
        cases ns with
        | nil => cases e
        | cons n r =>
          simp only [Option.bind_some, Option.some.injEq] at e; subst e
          exact ⟨a, n :: r, rfl, ra, by simp, fun m h1 h2 => by rw [minL_is r n m h1 h2]; exact h.scal fr s (rpS_int _)⟩
  | maxL =>
    simp only [btN, Option.some.injEq, Prod.mk.injEq] at hb; obtain ⟨rfl, rfl⟩ := hb
    refine ⟨_, cr_max (g.calm hcm), ?_⟩
    intro w w1 H H1 R Ra σ st ds vs d Q e fr s hr h
    match ds, e with
    | [.node o .lst xs], e =>
      simp only [bltD] at e
      obtain ⟨v, rfl, q1⟩ := hr.one
      obtain ⟨a, us, rfl, ra, la⟩ := q1.list X.K s
      cases en : ints? xs with
      | none => rw [en] at e; cases e
      | some ns =>
        rw [en] at e
        have := ints_rep en la
        subst this
        cases ns with
        | nil => cases e
        | cons n r =>
          simp only [Option.bind_some, Option.some.injEq] at e; subst e
          exact ⟨a, n :: r, rfl, ra, by simp, fun m h1 h2 => by rw [maxL_is r n m h1 h2]; exact h.scal fr s (rpS_int _)⟩
  | sum =>
    simp only [btN, Option.some.injEq, Prod.mk.injEq] at hb; obtain ⟨rfl, rfl⟩ := hb
    refine ⟨_, cr_sum (g.calm hcm), ?_⟩
    intro w w1 H H1 R Ra σ st ds vs d Q e fr s hr h
    match ds, e with
    | [.node o .lst xs], e =>
      simp only [bltD] at e
      obtain ⟨v, rfl, q1⟩ := hr.one
      obtain ⟨a, us, rfl, ra, la⟩ := q1.list X.K s
      cases en : ints? xs with
      | none => rw [en] at e; cases e
      | some ns =>
        rw [en] at e
        have := ints_rep en la
        subst this
        simp only [Option.map_some, Option.some.injEq] at e; subst e
        exact ⟨a, ns, rfl, ra, h.scal fr s (rpS_int _)⟩
  | all =>
    simp only [btN, Option.some.injEq, Prod.mk.injEq] at hb; obtain ⟨rfl, rfl⟩ := hb
    refine ⟨_, cr_all (g.calm hcm), ?_⟩
    intro w w1 H H1 R Ra σ st ds vs d Q e fr s hr h
    match ds, e with
    | [.node o .lst xs], e =>
      simp only [bltD] at e
      obtain ⟨v, rfl, q1⟩ := hr.one
      obtain ⟨a, us, rfl, ra, la⟩ := q1.list X.K s
      cases en : bls? xs with
      | none => rw [en] at e; cases e
      | some ns =>
        rw [en] at e
        have := bls_rep en la
        subst this
        simp only [Option.map_some, Option.some.injEq] at e; subst e
        exact ⟨a, ns, rfl, ra, h.scal fr s (rpS_bl _)⟩
  | any =>
    simp only [btN, Option.some.injEq, Prod.mk.injEq] at hb; obtain ⟨rfl, rfl⟩ := hb
    refine ⟨_, cr_any (g.calm hcm), ?_⟩
    intro w w1 H H1 R Ra σ st ds vs d Q e fr s hr h
    match ds, e with
    | [.node o .lst xs], e =>
      simp only [bltD] at e
      obtain ⟨v, rfl, q1⟩ := hr.one
      obtain ⟨a, us, rfl, ra, la⟩ := q1.list X.K s
      cases en : bls? xs with
      | none => rw [en] at e; cases e
      | some ns =>
        rw [en] at e
        have := bls_rep en la
        subst this
        simp only [Option.map_some, Option.some.injEq] at e; subst e
        exact ⟨a, ns, rfl, ra, h.scal fr s (rpS_bl _)⟩
  | int1 =>
    simp only [btN, Option.some.injEq, Prod.mk.injEq] at hb; obtain ⟨rfl, rfl⟩ := hb
    refine ⟨_, callR_or call_int1 call_int_str, ?_⟩
    intro w w1 H H1 R Ra σ st ds vs d Q e fr s hr h
    match ds, e with
    | [.int i], e =>
      simp only [bltD, Option.some.injEq] at e; subst e
      obtain ⟨v, rfl, q1⟩ := hr.one
      exact .inl (.inl ⟨i, by rw [q1.int], h.scal fr s (rpS_int _)⟩)
    | [.bl i], e =>
      simp only [bltD, Option.some.injEq] at e; subst e
      obtain ⟨v, rfl, q1⟩ := hr.one
      exact .inl (.inr ⟨i, by rw [q1.bl], h.scal fr s (rpS_int _)⟩)
    | [.str l], e =>
      simp only [bltD] at e
      split at e
      · rename_i hl
        cases e
        obtain ⟨v, rfl, q1⟩ := hr.one
        exact .inr ⟨cps l, _, by rw [q1.str], int_text hl.1 hl.2, by rw [cps_len]; omega, h.scal fr s (rpS_int _)⟩
      · cases e
  | str1 =>
    simp only [btN, Option.some.injEq, Prod.mk.injEq] at hb; obtain ⟨rfl, rfl⟩ := hb
    refine ⟨_, callR_or call_str_int SkE.call_str_str, ?_⟩
    intro w w1 H H1 R Ra σ st ds vs d Q e fr s hr h
    match ds, e with
    | [.int i], e =>
      simp only [bltD] at e
      split at e
      · rename_i hl
        cases e
        obtain ⟨v, rfl, q1⟩ := hr.one
        refine .inl ⟨i, by rw [q1.int], hl, ?_⟩
        have := str_int i hl
        show Q (.str (Str.ofString (toString i))) _
        rw [this]
        exact h.scal fr s (rpS_str _)
      · cases e
    | [.str l], e =>
      simp only [bltD, Option.some.injEq] at e; subst e
      obtain ⟨v, rfl, q1⟩ := hr.one
      exact .inr ⟨cps l, by rw [q1.str], h.scal fr s (rpS_str _)⟩
  | repr1 =>
    simp only [btN, Option.some.injEq, Prod.mk.injEq] at hb; obtain ⟨rfl, rfl⟩ := hb
    refine ⟨_, call_reprD (W := W) g.grd g.un, ?_⟩
    intro w w1 H H1 R Ra σ st ds vs d Q e fr s hr h
    match ds, e with
    | [d1], e =>
      simp only [bltD] at e
      cases er : repD d1 with
      | none => rw [er] at e; cases e
      | some l =>
        rw [er] at e
        simp only [Option.map_some, Option.some.injEq] at e; subst e
        obtain ⟨v, rfl, q1⟩ := hr.one
        exact ⟨w1, R, d1, v, l, rfl, s.sle, q1, er, h.scal fr s (rpS_str _)⟩
  | bool1 =>
    simp only [btN, Option.some.injEq, Prod.mk.injEq] at hb; obtain ⟨rfl, rfl⟩ := hb
    refine ⟨_, call_bool1, ?_⟩
    intro w w1 H H1 R Ra σ st ds vs d Q e fr s hr h
    match ds, e with
    | [.bl i], e =>
      simp only [bltD, Option.some.injEq] at e; subst e
      obtain ⟨v, rfl, q1⟩ := hr.one
      exact .inr ⟨i, by rw [q1.bl], h.scal fr s (rpS_bl _)⟩
  | list1 =>
    simp only [btN, Option.some.injEq, Prod.mk.injEq] at hb; obtain ⟨rfl, rfl⟩ := hb
    refine ⟨_, callR_or (callR_or call_list_of (call_listD (g.calm hcm))) (call_list_dT (g.calm hcm)), ?_⟩
    intro w w1 H H1 R Ra σ st ds vs d Q e fr s hr h
    match ds, e with
    | [.node o .lst xs], e =>
      simp only [bltD] at e
      split at e
      · rename_i hs
        cases e
        obtain ⟨v, rfl, q1⟩ := hr.one
        obtain ⟨a, us, rfl, ra, la⟩ := q1.list X.K s
        exact .inl <| .inl ⟨a, us, rfl, .inl ra, h.new fr s (la.sh hs) rfl⟩
      · cases e
    | [.node o .tup xs], e =>
      simp only [bltD] at e
      split at e
      · rename_i hs
        cases e
        obtain ⟨v, rfl, q1⟩ := hr.one
        obtain ⟨a, us, rfl, ra, la⟩ := q1.tupl X.K s
        exact .inl <| .inl ⟨a, us, rfl, .inr ra, h.new fr s (la.sh hs) rfl⟩
      · cases e
    | [.node o (.dK ks) xs], e =>
      simp only [bltD, Option.some.injEq] at e; subst e
      obtain ⟨v, rfl, q1⟩ := hr.one
      obtain ⟨a, us, rfl, ⟨ho, hr2, hm⟩, la⟩ := q1.node s.sle
      obtain ⟨rfl, l1, _⟩ := hm
      refine .inl <| .inr ⟨a, _, rfl, hr2.1, ?_⟩
      refine h.new (vs := (zipK (ks.map keyK) us).map fun (kv : L2.Key × V) => kV kv.1) fr s ?_ rfl
      rw [zipK_fst (by simpa using l1)]
      exact unAs_rp ks
    | [.node o (.dT ks) xs], e =>
      simp only [bltD, Option.some.injEq] at e; subst e
      obtain ⟨v, rfl, q1⟩ := hr.one
      obtain ⟨a, us, rfl, ⟨ho, hr2, hm⟩, la⟩ := q1.node s.sle
      obtain ⟨rfl, l1, _⟩ := hm
      refine .inr ⟨a, _, rfl, hr2.1, fun p bs hp hk => ?_⟩
      obtain ⟨f2, s2⟩ := key_grow (bs := bs) fr s fun b hb => by
        obtain ⟨kv, hkv⟩ := paired_mem hk b hb
        exact ⟨kv.1, hkv⟩
      exact h.new f2 s2 (keys_rp (fun _ hc => hc) (zipK_paired l1 hk)) rfl rfl p hp
  | tuple1 =>
    simp only [btN, Option.some.injEq, Prod.mk.injEq] at hb; obtain ⟨rfl, rfl⟩ := hb
    refine ⟨_, call_tuple_of, ?_⟩
    intro w w1 H H1 R Ra σ st ds vs d Q e fr s hr h
    match ds, e with
    | [.node o .lst xs], e =>
      simp only [bltD] at e
      split at e
      · rename_i hs
        cases e
        obtain ⟨v, rfl, q1⟩ := hr.one
        obtain ⟨a, us, rfl, ra, la⟩ := q1.list X.K s
        exact ⟨a, us, rfl, .inl ⟨ra, h.newS fr s (la.sh hs) rfl⟩⟩
      · cases e
    | [.node false .tup xs], e =>
      simp only [bltD, Option.some.injEq] at e; subst e
      obtain ⟨v, rfl, q1⟩ := hr.one
      obtain ⟨a, us, rfl, ra, la⟩ := q1.tupl X.K s
      exact ⟨a, us, rfl, .inr ⟨ra, h.okA rfl fr s q1⟩⟩
  | _ => simp [btN] at hb
theorem mg_blt (g : Gd W F c X E) {b : Blt} {x : Str} {f : Value} (hb : btN b = some (x, f)) : X.mg x = none ∧ x ≠ "__name__" ∧ (x == ("__debug__" : Str)) = false ∧ bootBuiltins x = some f ∧ ((∃ i, f = .builtin i) ∨ ∃ i, f = .type i) := by
  cases b <;> simp only [btN, Option.some.injEq, Prod.mk.injEq, reduceCtorEq] at hb <;> obtain ⟨rfl, rfl⟩ := hb
  all_goals refine ⟨g.blt _ (by decide), by decide, by decide, by decide +kernel, ?_⟩
  all_goals first | exact .inl ⟨_, rfl⟩ | exact .inr ⟨_, rfl⟩
/-- a built-in function's call, by what its arguments are -/
theorem pe_blt (g : Gd W F c X E) {b : Blt} {x : Str} {f : Value} {r : List V → Hp → VK → Prop} {e : Expr} {l : List Expr} {t : TA} {p q : Pos} (hb : btN b = some (x, f)) (hc : CallR X f r) (hg : glB c.sc x = true) (ha : PA X (e :: l) t) (hn : (e :: l).all noStar = true) :
    PE X (.Call (.Name x p) (e :: l) [] q) (tCB r t) := by
  obtain ⟨h1, h2, h3, h4, h5⟩ := mg_blt g hb
  have hgl : Gl X x := by show X.env.scope.names.lookup x = _; rw [g.sc]; exact of_decide_eq_true hg
  simp only [List.all_cons, Bool.and_eq_true] at hn
  rcases h5 with ⟨i, rfl⟩ | ⟨i, rfl⟩
  · exact pe_callB hc hgl h1 h4 ha h2 h3 (starEach_cons hn.1) (plain_star hn.2)
  · exact pe_callTy hc hgl h1 h4 ha h2 h3 (starEach_cons hn.1) (plain_star hn.2)
theorem snd_bl1 {b : Blt} {a : CE} {ea : Expr} {x : Str} {f : Value} {p q : Pos} (g : Gd W F c X E) (hcm : c.calm = true) (Sa : Snd W F a E X ea) (hb : btN b = some (x, f)) (hg : glB c.sc x = true) : Snd W F (.bl1 b a) E X (.Call (.Name x p) [ea] [] q) := by
  obtain ⟨r, hc, hr⟩ := blt_snd g hcm hb
  have hv : PE X (.Call (.Name x p) [ea] [] q) (semE W F E (.bl1 b a)) := peW (pe_blt g hb hc hg (pa_cons (snd_opd Sa) pa_nil (starEach_cons Sa.ns)) (by simp [Sa.ns])) fun σ H Q h => by
    obtain ⟨w, st, s, h⟩ := h
    refine opd_read (Fr.refl w H) s (PostR.ofE h) fun y H2 w2 Rb db st2 _ f2 s2 hy h2 => ?_
    obtain ⟨d, e, h3⟩ := PostE.of h2
    exact hr (R := Rb) e f2 s2 (by simp only [RpAL]; exact ⟨y, [], rfl, hy.drf s2, rfl⟩) h3
  exact ⟨hv, PT.of_v g hv rfl fun _ => rfl, (fun z => by cases z), (fun _ _ z => by cases z), rfl⟩
theorem snd_bl2 {b : Blt} {a d : CE} {ea ed : Expr} {x : Str} {f : Value} {p q : Pos} (g : Gd W F c X E) (hcm : c.calm = true) (Sa : Snd W F a E X ea) (Sd : Snd W F d E X ed) (hb : btN b = some (x, f)) (hg : glB c.sc x = true) : Snd W F (.bl2 b a d) E X (.Call (.Name x p) [ea, ed] [] q) := by
  obtain ⟨ta, tb, pa, pb, rd⟩ := two_snd g Sa Sd
  obtain ⟨r, hc, hr⟩ := blt_snd g hcm hb
  have hv : PE X (.Call (.Name x p) [ea, ed] [] q) (semE W F E (.bl2 b a d)) := peW (pe_blt g hb hc hg (pa_cons pa (pa_cons pb pa_nil (starEach_cons Sd.ns)) (starEach_cons Sa.ns)) (by simp [Sa.ns, Sd.ns])) fun σ H Q h => by
    obtain ⟨w, st, s, h⟩ := h
    refine rd (fun x y H Q => r [x, y] H Q) σ H Q w st _ s (PostR.ofE h) fun x y H2 w2 Rb da db st2 f2 s2 hx hy h2 => ?_
    obtain ⟨d, e, h3⟩ := PostE.of h2
    exact hr (R := Rb) e f2 s2 (by simp only [RpAL]; exact ⟨x, [y], rfl, hx.drf s2, y, [], rfl, hy.drf s2, rfl⟩) h3
  exact ⟨hv, PT.of_v g hv rfl fun _ => rfl, (fun z => by cases z), (fun _ _ z => by cases z), rfl⟩
end
end VS
/-! VS17: isinstance. -/
namespace VS
open PySem PySem.Spec L2
open PyProof.Rows hiding St
section
variable {W : Wd} {F : Cl} {c : Ck} {X : Cx} {E : L2.WX} {w w1 w2 : Wh} {H H1 H2 : Hp} {R Ra Rb : Own} {σ : L2.St} {st : Sg} {Q : VK}
theorem tyX_laid {K : PySem.W.Frag} {x : V} {t : Value} {p : Addr} {o : HO} (hp : H p = none) (h : TyX K H x t) : TyX K (upd H p o) x t := by
  have k : ∀ {a : Addr} {u : HO}, H a = some u → upd H p o a = some u := fun e => by rw [upd_ne (ne_of_none e hp)]; exact e
  cases h with
  | base b =>
    refine .base ?_
    cases b with
    | non => exact .non
    | bl x => exact .bl x
    | int x => exact .int x
    | str x => exact .str x
    | flt x => exact .flt x
    | lst e => exact .lst (k e)
    | frz e => exact .frz (k e)
    | tup e => exact .tup (k e)
    | dK e => exact .dK (k e)
    | dT e => exact .dT (k e)
    | ins e a b c d f => exact .ins (k e) a b c d f
  | byt b => exact .byt b
  | set e => exact .set (k e)
  | kList e q => exact .kList e q
  | kTuple e q => exact .kTuple e q
  | kDict e q => exact .kDict e q
  | fTuple e => exact .fTuple (k e)
  | fDict e => exact .fDict (k e)
/-- the name of a built-in type -/
def tyN : Ty → Option String
  | .int => some "int"
  | .bool => some "bool"
  | .str => some "str"
  | .list => some "list"
  | .tuple => some "tuple"
  | .dict => some "dict"
  | .ve => some "ValueError"
  | .cls _ => none
/-- a type as a value, as it stands -/
def tyV (W : Wd) : Ty → V
  | .int => .ty "int"
  | .bool => .ty "bool"
  | .str => .ty "str"
  | .list => .ty "list"
  | .tuple => .ty "tuple"
  | .dict => .ty "dict"
  | .ve => .ty "ValueError"
  | .cls e => .ref (W.cls e)
def tyU (W : Wd) : Ty → Value
  | .int => .type "int"
  | .bool => .type "bool"
  | .str => .type "str"
  | .list => .type "list"
  | .tuple => .type "tuple"
  | .dict => .type "dict"
  | .ve => .type "ValueError"
  | .cls e => .ref (W.cls e)
theorem ty_clsV (W : Wd) (t : Ty) : ClsV (tyV W t) (tyU W t) := by cases t <;> first | exact .ty _ | exact .own _
def expB (a b : String) : Bool := a == b || (a == "bool" && b == "int")
theorem kitB_all : (btNs.all fun a => tyNs.all fun b => decide (kitB a b = some (expB a b))) = true := by decide +kernel
theorem kit_bb {K : PySem.W.Frag} {a b : String} (ha : a ∈ btNs) (hb : b ∈ tyNs) : PySem.W.kitOne K (.type a) (.type b) = some (expB a b) := by
  have h := List.all_eq_true.mp kitB_all a ha
  have h2 := List.all_eq_true.mp h b hb
  exact kit_ty (of_decide_eq_true h2)
/-- a type that may be asked for -/
def tyOk (cs : List String) : Ty → Prop
  | .cls e => e ∈ cs
  | _ => True
/-- the type of a thing -/
def btD : D → Option String
  | .non => some "NoneType"
  | .bl _ => some "bool"
  | .int _ => some "int"
  | .str _ => some "str"
  | .node _ .lst _ => some "list"
  | .node _ .tup _ => some "tuple"
  | .node _ (.dK _) _ => some "dict"
  | _ => none
theorem bt_rep {d : D} {x : V} {a : String} (K : PySem.W.Frag) (s : SRep W w H σ st) (h : RpA W w R H d x) (e : btD d = some a) : TyX K H x (.type a) := by
  cases d with
  | non => cases e; rw [h.non]; exact .base .non
  | bl b => cases e; rw [h.bl]; exact .base (.bl _)
  | int b => cases e; rw [h.int]; exact .base (.int _)
  | str b => cases e; rw [h.str]; exact .base (.str _)
  | cell n => cases e
  | node o k xs =>
    obtain ⟨b, vs, rfl, ra, la⟩ := h.node s.sle
    cases k with
    | lst => cases e; exact .base (.lst ra.list')
    | tup => cases e; exact .base (.tup ra.tup')
    | dK ks =>
      cases e
      obtain ⟨ho, hr, hm⟩ := ra
      have hm' : ho = .dK (zipK (ks.map keyK) vs) := hm.1
      subst hm'
      rcases hr.1 with z | ⟨ob, z⟩
      · exact .base (.dK z)
      · exact .fDict z
    | _ => cases e
theorem bt_in {d : D} {a : String} (e : btD d = some a) : a ∈ btNs := by
  cases d with
  | node o k xs => cases k <;> simp [btD] at e <;> subst e <;> decide
  | cell n => cases e
  | _ => cases e; decide
theorem isi_bt {d : D} {t : Ty} {a : String} {k : Bool} (e : btD d = some a) (h : isiD F d t = some k) : (∃ b, tyU W t = .type b ∧ b ∈ tyNs ∧ k = expB a b) ∨ (∃ c, t = .cls c ∧ k = false) := by
  cases d with
  | node o kn xs =>
    cases kn <;> simp [btD] at e <;> subst e <;> cases t <;> simp [isiD] at h <;> subst h
    all_goals first | exact .inr ⟨_, rfl, rfl⟩ | exact .inl ⟨_, rfl, by decide, by decide⟩
  | cell n => cases e
  | _ =>
    cases e
    cases t <;> simp [isiD] at h <;> subst h
    all_goals first | exact .inr ⟨_, rfl, rfl⟩ | exact .inl ⟨_, rfl, by decide, by decide⟩
theorem isi_rep {d : D} {x : V} (g : IsiOk W F.sub X.K) (cl : ∀ k ∈ W.cs, Cls X.K (W.cls k)) (s : SRep W w H σ st) (h : RpA W w R H d x) : (∀ t, isiD F d t = none) ∨ (∃ tv, TyX X.K H x tv ∧ ∀ t k, tyOk W.ts t → isiD F d t = some k → PySem.W.kitOne X.K tv (tyU W t) = some k) ∨
    ∃ a C fs, x = .ref a ∧ ExcC X.K C ∧ ExcAt H a C fs ∧ ∀ t k, tyOk W.ts t → isiD F d t = some k → PySem.W.kitOne X.K (.ref C) (tyU W t) = some k := by
  cases eb : btD d with
  | some a =>
    refine .inr (.inl ⟨_, bt_rep X.K s h eb, fun t k ht e => ?_⟩)
    rcases isi_bt (W := W) eb e with ⟨b, e1, e2, rfl⟩ | ⟨q, rfl, rfl⟩
    · rw [e1]; exact kit_bb (bt_in eb) e2
    · exact g.to a (bt_in eb) q ht
  | none =>
    cases d with
    | cell n => exact .inl fun t => rfl
    | node o kn xs =>
      cases kn with
      | slst => exact .inl fun t => by cases t <;> rfl
      | dT ks => exact .inl fun t => by cases t <;> rfl
      | obj q ns =>
        obtain ⟨b, vs, rfl, ⟨ho, hr, hm⟩, la⟩ := h.node s.sle
        obtain ⟨dx, rfl, hl, _, hc⟩ := hm
        refine .inr (.inl ⟨.ref (W.cls q), .base (.ins (hr.2 rfl) (cl q hc) (g.ha q hc) (g.hn q hc) (g.ht q hc) (g.hm q hc)), fun t k ht e => ?_⟩)
        cases t with
        | cls e2 =>
          simp only [isiD, Option.some.injEq] at e
          subst e
          exact g.oo q hc e2 ht
        | _ =>
          simp only [isiD, Option.some.injEq] at e
          subst e
          exact g.ot q hc _ (by decide)
      | xd ns => exact .inl fun t => by cases t <;> rfl
      | exc q =>
        obtain ⟨b, vs, rfl, ⟨ho, hr, hm⟩, la⟩ := h.node s.sle
        obtain ⟨oe, dd, rfl, rfl, h1, h2, h3, hc⟩ := hm
        match xs, la with
        | [y], la =>
          simp only [RpAL] at la
          obtain ⟨v0, r0, e0, q0, _⟩ := la
          cases e0
          cases y with
          | node o2 k2 ys =>
            cases k2 with
            | xd ns =>
              obtain ⟨a2, vs2, e2, ⟨ho2, hr2, hm2⟩, la2⟩ := q0.node s.sle
              cases e2
              obtain ⟨rfl, hl2⟩ := hm2
              refine .inr (.inr ⟨b, W.cls q, _, rfl, g.exC q hc, ⟨oe, dd, hr.2 rfl, h1, h2, h3, hr2.2 rfl⟩, fun t k ht e => ?_⟩)
              cases t with
              | cls e2 =>
                simp only [isiD, Option.some.injEq] at e
                subst e
                exact g.eo q hc e2 ht
              | ve =>
                simp only [isiD, Option.some.injEq] at e
                subst e
                exact g.xv q hc
              | _ => simp [isiD] at e
            | _ => exact .inl fun t => by cases t <;> rfl
          | _ => exact .inl fun t => by cases t <;> rfl
        | [], la => exact .inl fun t => by cases t <;> rfl
        | _ :: _ :: _, la =>
          exfalso
          simp only [RpAL] at la
          obtain ⟨_, _, e0, _, e1⟩ := la
          cases e0
          obtain ⟨_, _, e2, _⟩ := e1
          cases e2
      | _ => cases eb
    | _ => cases eb
theorem isiL_kit {d : D} {tv : Value} {K : PySem.W.Frag} (h : ∀ t k, tyOk W.ts t → isiD F d t = some k → PySem.W.kitOne K tv (tyU W t) = some k) : ∀ {ts : List Ty} {k : Bool}, (∀ t ∈ ts, tyOk W.ts t) → isiL F d ts = some k → PySem.W.kitAny K tv (ts.map (tyU W)) = some k
  | [], k, _, e => e
  | t :: ts, k, ho, e => by
    simp only [isiL] at e
    cases e1 : isiD F d t with
    | none => rw [e1] at e; cases e
    | some b =>
      rw [e1] at e
      simp only [Option.bind_some] at e
      refine kitAny_cons (h t b (ho t (by simp)) e1) (fun hb => ?_) (fun hb => ?_)
      · subst hb
        exact isiL_kit h (fun t ht => ho t (by simp [ht])) e
      · subst hb
        simpa using e.symm
/-- the text of a type -/
def chkTy (c : Ck) : Ty → Expr → Bool
  | .cls e, x => (match vName x with | some y => decide (y = sn e) && glB c.sc y && !dbB y && c.ts.contains e | none => false)
  | t, x => (match vName x, tyN t with | some y, some n => decide (y = sn n) && glB c.sc y | _, _ => false)
def chkTys (c : Ck) : List Ty → List Expr → Bool
  | [], [] => true
  | t :: ts, e :: es => chkTy c t e && chkTys c ts es
  | _, _ => false
theorem sn_lit : sn "int" = ("int" : Str) ∧ sn "bool" = ("bool" : Str) ∧ sn "str" = ("str" : Str) ∧ sn "list" = ("list" : Str) ∧ sn "tuple" = ("tuple" : Str) ∧ sn "dict" = ("dict" : Str) := ⟨rfl, rfl, rfl, rfl, rfl, rfl⟩
theorem chkTy_snd {t : Ty} {e : Expr} (g : Gd W F c X E) (h : chkTy c t e = true) : PE X e (tC (tyV W t)) ∧ noStar e = true ∧ tyOk W.ts t := by
  have bt : ∀ {n : String} {u : Value}, X.mg (sn n) = none → bootBuiltins (sn n) = some (.type n) → (sn n) ≠ ("__name__" : Str) → ((sn n) == ("__debug__" : Str)) = false → (match vName e, some n with | some y, some n => decide (y = sn n) && glB c.sc y | _, _ => false) = true → PE X e (tC (.ty n)) ∧ noStar e = true := by
    intro n u h1 h2 h3 h4 h0
    cases ev : vName e with
    | none => rw [ev] at h0; cases h0
    | some y =>
      rw [ev] at h0
      have h' : (decide (y = sn n) && glB c.sc y) = true := h0
      obtain ⟨p, rfl⟩ := vName_eq ev
      simp only [Bool.and_eq_true, decide_eq_true_eq] at h'
      obtain ⟨rfl, h6⟩ := h'
      exact ⟨pe_bltn (by show X.env.scope.names.lookup (sn n) = _; rw [g.sc]; exact of_decide_eq_true h6) h1 h2 rfl h3 h4, rfl⟩
  cases t with
  | cls k =>
    simp only [chkTy] at h
    cases ev : vName e with
    | none => rw [ev] at h; cases h
    | some y =>
      rw [ev] at h
      obtain ⟨p, rfl⟩ := vName_eq ev
      simp only [Bool.and_eq_true, decide_eq_true_eq, Bool.not_eq_true', dbB, Bool.or_eq_false_iff] at h
      obtain ⟨⟨⟨rfl, h2⟩, ⟨h3, _⟩, _⟩, h5⟩ := h
      have hk : k ∈ c.ts := by simpa using h5
      exact ⟨pe_glob (by show X.env.scope.names.lookup (sn k) = _; rw [g.sc]; exact of_decide_eq_true h2) (g.tsg k hk) rfl h3, rfl, g.tse k hk⟩
  | int => have z := bt (n := "int") (u := .none) (g.blt _ (by decide)) (by decide +kernel) (by decide) (by decide) h; exact ⟨z.1, z.2, trivial⟩
  | bool => have z := bt (n := "bool") (u := .none) (g.blt _ (by decide)) (by decide +kernel) (by decide) (by decide) h; exact ⟨z.1, z.2, trivial⟩
  | str => have z := bt (n := "str") (u := .none) (g.blt _ (by decide)) (by decide +kernel) (by decide) (by decide) h; exact ⟨z.1, z.2, trivial⟩
  | list => have z := bt (n := "list") (u := .none) (g.blt _ (by decide)) (by decide +kernel) (by decide) (by decide) h; exact ⟨z.1, z.2, trivial⟩
  | tuple => have z := bt (n := "tuple") (u := .none) (g.blt _ (by decide)) (by decide +kernel) (by decide) (by decide) h; exact ⟨z.1, z.2, trivial⟩
  | dict => have z := bt (n := "dict") (u := .none) (g.blt _ (by decide)) (by decide +kernel) (by decide) (by decide) h; exact ⟨z.1, z.2, trivial⟩
  | ve => have z := bt (n := "ValueError") (u := .none) (g.blt _ (by decide)) (by decide +kernel) (by decide) (by decide) h; exact ⟨z.1, z.2, trivial⟩
theorem chkTys_snd (g : Gd W F c X E) : ∀ {ts : List Ty} {es : List Expr}, chkTys c ts es = true → PA X es (fun _ H Q => Q (ts.map (tyV W)) H) ∧ ∀ t ∈ ts, tyOk W.ts t
  | [], [], _ => ⟨paW pa_nil fun _ _ _ h => h, fun _ h => by cases h⟩
  | t :: ts, e :: es, h => by
    simp only [chkTys, Bool.and_eq_true] at h
    obtain ⟨h1, h2, h3⟩ := chkTy_snd g h.1
    obtain ⟨h4, h5⟩ := chkTys_snd g h.2
    refine ⟨paW (pa_cons h1 h4 (starEach_cons h2)) fun σ H Q h => h, fun u hu => ?_⟩
    simp only [List.mem_cons] at hu
    rcases hu with rfl | hu
    · exact h3
    · exact h5 u hu
  | [], _ :: _, h => by cases h
  | _ :: _, [], h => by cases h
theorem _root_.VS.ExcAt.laid {H : Hp} {a C p : Addr} {fs : List (Str × V)} {o : HO} (h : ExcAt H a C fs) (hp : H p = none) : ExcAt (upd H p o) a C fs := by
  obtain ⟨oe, dd, h1, h2, h3, h4, h5⟩ := h
  exact ⟨oe, dd, by rw [upd_ne (ne_of_none h1 hp)]; exact h1, h2, h3, h4, by rw [upd_ne (ne_of_none h5 hp)]; exact h5⟩
/-- isinstance(a, T), isinstance(a, (T, ..)) -/
theorem snd_isi {a : CE} {t : Ty} {ts : List Ty} {ea et : Expr} {p q : Pos} (g : Gd W F c X E) (Sa : Snd W F a E X ea) (hg : glB c.sc "isinstance" = true) (hu : X.A.units + 200 < cLine)
    (h : (match vTup et with | some es => chkTys c (t :: ts) es && decide ((t :: ts).length ≤ 20) | none => decide (ts = []) && chkTy c t et) = true) : Snd W F (.isi a (t :: ts)) E X (.Call (.Name "isinstance" p) [ea, et] [] q) := by
  have hgl : Gl X "isinstance" := by show X.env.scope.names.lookup _ = _; rw [g.sc]; exact of_decide_eq_true hg
  have hm : X.mg "isinstance" = none := g.blt _ (by decide)
  have hv : PE X (.Call (.Name "isinstance" p) [ea, et] [] q) (semE W F E (.isi a (t :: ts))) := by
    cases et' : vTup et with
    | none =>
      rw [et'] at h
      simp only [Bool.and_eq_true, decide_eq_true_eq] at h
      obtain ⟨rfl, h⟩ := h
      obtain ⟨h1, h2, h3⟩ := chkTy_snd g h
      refine peW (pe_callB (CallR.orr call_isi call_isX) hgl hm (by decide +kernel) (pa_cons (snd_opd Sa) (pa_cons h1 pa_nil (starEach_cons h2)) (starEach_cons Sa.ns)) (by decide) (by decide) (starEach_cons Sa.ns) (plain_star (by simp [h2]))) fun σ H Q h => ?_
      obtain ⟨w, st, s, h⟩ := h
      refine opd_read (Fr.refl w H) s (PostR.ofE h) fun y H2 w2 Rb db st2 _ f2 s2 hy h2 => ?_
      obtain ⟨d, e, h4⟩ := PostE.of h2
      cases ek : isiL F (drf st2.m db) [t] with
      | none => rw [ek] at e; cases e
      | some k =>
        rw [ek] at e
        simp only [Option.map_some, Option.some.injEq] at e
        subst e
        have e1 : isiD F (drf st2.m db) t = some k := by
          simp only [isiL] at ek
          cases e1 : isiD F (drf st2.m db) t with
          | none => rw [e1] at ek; cases ek
          | some b => rw [e1] at ek; cases b <;> simpa using ek
        rcases isi_rep (F := F) g.isi g.cls s2 (hy.drf s2) with z | ⟨tv, h5, h6⟩ | ⟨a5, C5, fs5, rfl, x1, x2, h6⟩
        · rw [z] at e1; cases e1
        rotate_left
        · exact .inr ⟨a5, C5, fs5, tyV W t, tyU W t, k, rfl, ty_clsV W t, x1, x2, h6 t k h3 e1, h4.scal f2 s2 (rpS_bl _)⟩
        · exact .inl ⟨y, tyV W t, tv, tyU W t, k, rfl, ty_clsV W t, h5, h6 t k h3 e1, h4.scal f2 s2 (rpS_bl _)⟩
    | some es =>
      rw [et'] at h
      simp only [Bool.and_eq_true, decide_eq_true_eq] at h
      obtain ⟨ek2, p2, rfl⟩ := vTup_eq et'
      obtain ⟨h1, h3⟩ := chkTys_snd g h.1
      refine peW (pe_callB (CallR.orr call_isiT call_isXT) hgl hm (by decide +kernel) (pa_cons (snd_opd Sa) (pa_cons (pe_tup h1) pa_nil (starEach_cons rfl)) (starEach_cons Sa.ns)) (by decide) (by decide) (starEach_cons Sa.ns) (plain_star (by simp [noStar]))) fun σ H Q h0 => ?_
      obtain ⟨w, st, s, h0⟩ := h0
      refine opd_read (Fr.refl w H) s (PostR.ofE h0) fun y H2 w2 Rb db st2 _ f2 s2 hy h2 => ?_
      obtain ⟨d, e, h4⟩ := PostE.of h2
      refine ⟨by rw [List.length_map, sizeLine_eq]; have := h.2; omega, fun tp htp => ?_⟩
      cases ek : isiL F (drf st2.m db) (t :: ts) with
      | none => rw [ek] at e; cases e
      | some k =>
        rw [ek] at e
        simp only [Option.map_some, Option.some.injEq] at e
        subst e
        rcases isi_rep (F := F) g.isi g.cls s2 (hy.drf s2) with z | ⟨tv, h5, h6⟩ | ⟨a5, C5, fs5, rfl, x1, x2, h6⟩
        · simp only [isiL] at ek; rw [z] at ek; cases ek
        rotate_left
        · refine .inr ⟨a5, C5, tp, fs5, _, (t :: ts).map (tyU W), k, rfl, upd_same, ?_, x1, x2.laid htp, isiL_kit h6 h3 ek, ?_⟩
          · generalize (t :: ts) = l
            induction l with
            | nil => exact .nil
            | cons u l ih => exact .cons (ty_clsV W u) ih
          · have g2 := grow (o := .tup ((t :: ts).map (tyV W))) f2 s2 htp
            exact h4.scal g2.1 g2.2 (rpS_bl _)
        · refine .inl ⟨y, tp, _, tv, (t :: ts).map (tyU W), k, rfl, upd_same, ?_, tyX_laid htp h5, isiL_kit h6 h3 ek, ?_⟩
          · generalize (t :: ts) = l
            induction l with
            | nil => exact .nil
            | cons u l ih => exact .cons (ty_clsV W u) ih
          · have g2 := grow (o := .tup ((t :: ts).map (tyV W))) f2 s2 htp
            exact h4.scal g2.1 g2.2 (rpS_bl _)
  exact ⟨hv, PT.of_v g hv rfl fun _ => rfl, (fun z => by cases z), (fun _ _ z => by cases z), rfl⟩
end
end VS
/-! VS18: what is walked. -/
namespace VS
open PySem PySem.Spec L2
open PyProof.Rows hiding St
section
variable {W : Wd} {F : Cl} {c : Ck} {X : Cx} {E : L2.WX} {w w1 w2 : Wh} {H H1 H2 : Hp} {R Ra Rb R1 : Own} {σ : L2.St} {st : Sg} {Q : VK}
theorem shL_frz : ∀ {xs : List D}, D.shL xs = true → D.frzL xs = xs ∧ D.ncL xs = true
  | [], _ => ⟨rfl, rfl⟩
  | x :: r, h => by
    simp only [D.shL, Bool.and_eq_true] at h
    obtain ⟨h1, h2⟩ := shL_frz h.2
    have hx : x.frz = x ∧ x.nc = true := by
      cases x with
      | node o k ys =>
        simp only [D.sh, Bool.and_eq_true, Bool.not_eq_true'] at h
        obtain ⟨h3, h4⟩ := shL_frz h.1.2
        simp only [D.frz, h3, D.nc, h4, h.1.1, and_self]
      | cell n => simp [D.sh] at h
      | _ => exact ⟨rfl, rfl⟩
    simp only [D.frzL, D.ncL, hx.1, hx.2, h1, h2, Bool.and_self, and_self]
theorem shL_frzL : ∀ {xs : List D}, D.ncL xs = true → D.shL (D.frzL xs) = true
  | [], _ => rfl
  | x :: r, h => by
    simp only [D.ncL, Bool.and_eq_true] at h
    have hx : x.frz.sh = true := by
      cases x with
      | node o k ys => simp only [D.frz, D.sh, Bool.not_false, Bool.true_and]; exact shL_frzL (by simpa [D.nc] using h.1)
      | cell n => simp [D.nc] at h
      | _ => rfl
    simp only [D.frzL, D.shL, hx, shL_frzL h.2, Bool.and_self]
theorem stay_eq {xs ys : List D} (h : stay xs = some ys) : ys = D.frzL xs ∧ D.ncL xs = true ∧ D.shL ys = true := by
  unfold stay at h
  split at h
  · rename_i hs
    cases h
    exact ⟨(shL_frz hs).1.symm, (shL_frz hs).2, hs⟩
  · split at h
    · rename_i hn
      cases h
      exact ⟨rfl, hn, shL_frzL hn⟩
    · cases h
/-- what is held is frozen -/
def frzA (w1 : Wh) (R1 : Own) (H1 : Hp) : Wh := ⟨fun x => if (R1 x).isSome then H1 x else w1.S x, w1.own, w1.io⟩
theorem frzA_R {x : Addr} {t : Ix × Ps} (h : R1 x = some t) : (frzA w1 R1 H1).S x = H1 x := by show (if (R1 x).isSome then H1 x else w1.S x) = _; rw [h]; rfl
theorem frzA_S {x : Addr} (h : R1 x = none) : (frzA w1 R1 H1).S x = w1.S x := by show (if (R1 x).isSome then H1 x else w1.S x) = _; rw [h]; rfl
theorem frzA_le (fr : Fr w H w1 R1 H1) : SLe w1.S (frzA w1 R1 H1).S := fun a u h => by
  cases e : R1 a with
  | none => rw [frzA_S e]; exact h
  | some t => rw [(fr.R a (by rw [e]; simp)).2.1] at h; cases h
theorem frzA_snd (fr : Fr w H w1 R1 H1) (s : SRep W w1 H1 σ st) : Fr w H (frzA w1 R1 H1) noR H1 ∧ SRep W (frzA w1 R1 H1) H1 σ st := by
  have le := frzA_le fr
  have kp : ∀ r, Kp w1 (frzA w1 R1 H1) H1 H1 r r := fun r => ⟨le, fun _ _ h => h, fun _ _ h => h, fun _ _ _ _ h => h⟩
  refine ⟨⟨fr.S.trans le, fr.io, fr.dom, fun _ h => absurd rfl h, fun x h => ?_, fr.keep, fun _ h => absurd rfl h⟩, ⟨fun a u h => ?_, fun a t h => ⟨?_, (s.sno a t h).2⟩, s.iol, fun n d h => ?_, fun i d h => ?_, s.len⟩⟩
  · cases e : R1 x with
    | none => rw [frzA_S e] at h; exact fr.Sd x h
    | some t => exact .inr ((fr.domR x (by rw [e]; simp)).imp id nLv)
  · cases e : R1 a with
    | none => rw [frzA_S e] at h; exact s.sle a u h
    | some t => rw [frzA_R e] at h; exact RdX.of h
  · cases e : R1 a with
    | none => rw [frzA_S e]; exact (s.sno a t h).1
    | some t' => exact absurd (fr.R a (by rw [e]; simp)).1 (by rw [show w1.own a = some t from h]; simp)
  · obtain ⟨a, e, q⟩ := s.cel n d h
    exact ⟨a, e, Rp.mono (kp _) q⟩
  · obtain ⟨v, e, q⟩ := s.slo i d h
    exact ⟨v, e, Rp.mono (kp _) q⟩
theorem frzA_rp (fr : Fr w H w1 R1 H1) {r : Ix} {d : D} {p : Ps} {v : V} (e : d.nc = true) (h : Rp W (w1.wth R1) H1 r d p v) : RpS W (frzA w1 R1 H1).S d.frz v :=
  Rp.frz (w := w1.wth R1) (S' := (frzA w1 R1 H1).S) ⟨fun a u h => frzA_le fr a u h, fun a p u q hu => by rw [frzA_R q]; exact hu⟩ e h
/-- where walked things come from -/
structure Src (W : Wd) (w1 : Wh) (H1 : Hp) (xs : List D) (J : It) : Prop where
  goes : ∀ {i w2 R2 H2}, Fr w1 H1 w2 R2 H2 → (∀ a u, w2.S a = some u → RdX H2 a u) → i < xs.length → J.go i H2
  stops : ∀ {w2 R2 H2}, Fr w1 H1 w2 R2 H2 → (∀ a u, w2.S a = some u → RdX H2 a u) → J.stop xs.length H2
  yields : ∀ {i d x w2 R2 H2 H3 σ st}, Fr w1 H1 w2 R2 H2 → SRep W w2 H2 σ st → xs[i]? = some d → J.yld i H2 x H3 → ∃ w3, Fr w2 H2 w3 noR H3 ∧ SRep W w3 H3 σ st ∧ RpS W w3.S d x
theorem RpSL.get {S : Hp} : ∀ {xs : List D} {vs : List V} {i : Nat} {d : D}, RpSL W S xs vs → xs[i]? = some d → ∃ v, vs[i]? = some v ∧ RpS W S d v
  | [], _, _, _, _, e => by simp at e
  | x :: xs, vs, 0, d, h, e => by
    simp only [RpSL] at h
    obtain ⟨v, s, rfl, q, t⟩ := h
    simp at e; subst e
    exact ⟨v, by simp, q⟩
  | x :: xs, vs, i + 1, d, h, e => by
    simp only [RpSL] at h
    obtain ⟨v, s, rfl, q, t⟩ := h
    obtain ⟨v', e1, q1⟩ := RpSL.get t (by simpa using e)
    exact ⟨v', by simpa using e1, q1⟩
theorem Sat.list {K : PySem.W.Frag} {a : Addr} {vs : List V} {S : Hp} (l : ∀ a u, S a = some u → RdX H a u) (h : Sat W S a vs .lst) : SqL K H a vs := by
  obtain ⟨o, h, q⟩ := h
  have q' : o = .lst vs := q
  subst q'; exact .inl (l _ _ h).1
theorem Sat.tup {K : PySem.W.Frag} {a : Addr} {vs : List V} {S : Hp} (l : ∀ a u, S a = some u → RdX H a u) (h : Sat W S a vs .tup) : SqT K H a vs := by
  obtain ⟨o, h, q⟩ := h
  have q' : o = .tup vs := q
  subst q'; exact .inl (l _ _ h).1
theorem Sat.slist {K : PySem.W.Frag} {a : Addr} {vs : List V} {S : Hp} (l : ∀ a u, S a = some u → RdX H a u) (h : Sat W S a vs .slst) : SqL K H a vs := by
  obtain ⟨o, h, ob, q⟩ := h
  subst q; exact .inl (.inr ⟨ob, (l _ _ h).2 rfl⟩)
theorem src_list {K : PySem.W.Frag} {a : Addr} {vs : List V} {xs : List D} (h : Sat W w1.S a vs .lst ∨ Sat W w1.S a vs .slst) (hx : RpSL W w1.S xs vs) : Src W w1 H1 xs (Itl K a) := by
  have sq : ∀ {w2 R2 H2}, Fr w1 H1 w2 R2 H2 → (∀ a u, w2.S a = some u → RdX H2 a u) → SqL K H2 a vs := fun f l => by
    rcases h with h | h
    · exact (h.mono f.S).list l
    · exact (h.mono f.S).slist l
  refine ⟨fun f l hi => ?_, fun f l => ⟨vs, sq f l, by rw [hx.len]; exact Nat.le_refl _⟩, fun f s e y => ?_⟩
  · have hi' := hi
    rw [hx.len] at hi'
    exact ⟨vs, _, sq f l, List.getElem?_eq_getElem hi'⟩
  · obtain ⟨rfl, y⟩ := y
    obtain ⟨v, e1, q⟩ := hx.get e
    have := y vs (sq f s.sle)
    rw [e1] at this
    cases this
    exact ⟨_, Fr.refl _ _, s, q.mono f.S⟩
theorem src_tup {K : PySem.W.Frag} {a : Addr} {vs : List V} {xs : List D} (h : Sat W w1.S a vs .tup) (hx : RpSL W w1.S xs vs) : Src W w1 H1 xs (Itt K a) := by
  refine ⟨fun f l hi => ?_, fun f l => ⟨vs, (h.mono f.S).tup l, by rw [hx.len]; exact Nat.le_refl _⟩, fun f s e y => ?_⟩
  · have hi' := hi
    rw [hx.len] at hi'
    exact ⟨vs, _, (h.mono f.S).tup l, List.getElem?_eq_getElem hi'⟩
  · obtain ⟨rfl, y⟩ := y
    obtain ⟨v, e1, q⟩ := hx.get e
    have := y vs ((h.mono f.S).tup s.sle)
    rw [e1] at this
    cases this
    exact ⟨_, Fr.refl _ _, s, q.mono f.S⟩
theorem src_str {l : List Nat} : Src W w1 H1 (l.map fun c => .str [c]) (Its (cps l)) := by
  refine ⟨fun f _ hi => ?_, fun f _ => ?_, fun f s e y => ?_⟩
  · show _ < (cps l).cps.size
    simpa using hi
  · show (cps l).cps.size ≤ _
    simp
  · obtain ⟨rfl, ch, e1, rfl⟩ := y
    simp only [List.getElem?_map] at e
    have e2 : (l.toArray)[_]? = some ch := e1
    rw [List.getElem?_toArray] at e2
    rw [e2] at e
    simp only [Option.map_some, Option.some.injEq] at e
    subst e
    exact ⟨_, Fr.refl _ _, s, rpS_str _⟩
theorem rngL_len : ∀ {n : Nat} {i : Int}, (rngL i n).length = n
  | 0, _ => rfl
  | n + 1, i => by simp [rngL, rngL_len]
theorem rngL_get : ∀ {n : Nat} {i : Int} {j : Nat} {d : D}, (rngL i n)[j]? = some d → d = .int (i + j)
  | 0, i, j, d, h => by simp [rngL] at h
  | n + 1, i, 0, d, h => by simp [rngL] at h; rw [← h]; simp
  | n + 1, i, j + 1, d, h => by
    have := rngL_get (n := n) (i := i + 1) (j := j) (d := d) (by simpa [rngL] using h)
    rw [this]; congr 1; omega
theorem src_rng {i : Int} {n : Nat} : Src W w1 H1 (rngL i n) (Itr i n) := by
  refine ⟨fun f _ hi => ?_, fun f _ => ?_, fun f s e y => ?_⟩
  · rw [rngL_len] at hi; exact hi
  · rw [rngL_len]; exact Nat.le_refl n
  · obtain ⟨rfl, rfl⟩ := y
    rw [rngL_get e]
    exact ⟨_, Fr.refl _ _, s, rpS_int _⟩
/-- new pairs -/
theorem pair_new {T : Addr} {x y : V} {d e : D} (s : SRep W w2 H2 σ st) (hT : H2 T = none) (hd : RpS W w2.S d x) (he : RpS W w2.S e y) :
    ∃ w3, Fr w2 H2 w3 noR (upd H2 T (.tup [x, y])) ∧ SRep W w3 (upd H2 T (.tup [x, y])) σ st ∧ RpS W w3.S (.tup false [d, e]) (.ref T) := by
  obtain ⟨f, s'⟩ := grow (o := .tup [x, y]) (Fr.refl w2 H2) s hT
  refine ⟨_, f, s', ?_⟩
  have hS : SLe w2.S (upd w2.S T (.tup [x, y])) := f.S
  simp only [RpS, RpSL]
  exact ⟨trivial, T, [x, y], rfl, ⟨_, upd_same, rfl⟩, x, [y], rfl, hd.mono hS, y, [], rfl, he.mono hS, rfl⟩
theorem enumL_len : ∀ {xs : List D} {i : Int}, (enumL i xs).length = xs.length
  | [], _ => rfl
  | x :: r, i => by simp [enumL, enumL_len]
theorem enumL_get : ∀ {xs : List D} {i : Int} {j : Nat} {d : D}, (enumL i xs)[j]? = some d → ∃ x, xs[j]? = some x ∧ d = .tup false [.int (i + j), x]
  | [], i, j, d, h => by simp [enumL] at h
  | x :: r, i, 0, d, h => by simp [enumL] at h; exact ⟨x, by simp, by rw [← h]; simp⟩
  | x :: r, i, j + 1, d, h => by
    obtain ⟨y, e, q⟩ := enumL_get (xs := r) (i := i + 1) (j := j) (d := d) (by simpa [enumL] using h)
    refine ⟨y, by simpa using e, ?_⟩
    rw [q, show i + 1 + (j : Int) = i + ((j + 1 : Nat) : Int) by omega]
theorem src_enum {K : PySem.W.Frag} {a : Addr} {vs : List V} {xs : List D} (h : Sat W w1.S a vs .lst) (hx : RpSL W w1.S xs vs) : Src W w1 H1 (enumL 0 xs) (Ite K a) := by
  refine ⟨fun f l hi => ?_, fun f l => ⟨vs, (h.mono f.S).list l, by rw [enumL_len, hx.len]; exact Nat.le_refl _⟩, fun f s e y => ?_⟩
  · rw [enumL_len, hx.len] at hi
    exact ⟨vs, _, (h.mono f.S).list l, List.getElem?_eq_getElem hi⟩
  · obtain ⟨T, x, rfl, hT, rfl, y⟩ := y
    obtain ⟨d, e1, rfl⟩ := enumL_get e
    obtain ⟨v, e2, q⟩ := hx.get e1
    have := y vs ((h.mono f.S).list s.sle)
    rw [e2] at this
    cases this
    simp only [Int.zero_add]
    exact pair_new s hT (rpS_int _) (q.mono f.S)
theorem zipL_len : ∀ {xs ys : List D}, (zipL xs ys).length = min xs.length ys.length
  | [], _ => by simp [zipL]
  | _ :: _, [] => by simp [zipL]
  | x :: r, y :: s => by simp only [zipL, List.length_cons, zipL_len]; omega
theorem zipL_get : ∀ {xs ys : List D} {j : Nat} {d : D}, (zipL xs ys)[j]? = some d → ∃ x y, xs[j]? = some x ∧ ys[j]? = some y ∧ d = .tup false [x, y]
  | [], _, j, d, h => by simp [zipL] at h
  | _ :: _, [], j, d, h => by simp [zipL] at h
  | x :: r, y :: s, 0, d, h => by simp [zipL] at h; exact ⟨x, y, by simp, by simp, h.symm⟩
  | x :: r, y :: s, j + 1, d, h => by
    obtain ⟨a, b, e, f, q⟩ := zipL_get (xs := r) (ys := s) (j := j) (d := d) (by simpa [zipL] using h)
    exact ⟨a, b, by simpa using e, by simpa using f, q⟩
theorem src_zip {K : PySem.W.Frag} {a b : Addr} {vs us : List V} {xs ys : List D} (h : Sat W w1.S a vs .lst) (hx : RpSL W w1.S xs vs) (h' : Sat W w1.S b us .lst) (hy : RpSL W w1.S ys us) : Src W w1 H1 (zipL xs ys) (Itz K a b) := by
  refine ⟨fun f l hi => ?_, fun f l => ⟨vs, us, (h.mono f.S).list l, (h'.mono f.S).list l, ?_⟩, fun f s e y => ?_⟩
  · rw [zipL_len, hx.len, hy.len] at hi
    have h1 : _ < vs.length := Nat.lt_of_lt_of_le hi (Nat.min_le_left _ _)
    have h2 : _ < us.length := Nat.lt_of_lt_of_le hi (Nat.min_le_right _ _)
    exact ⟨vs, us, _, _, (h.mono f.S).list l, (h'.mono f.S).list l, List.getElem?_eq_getElem h1, List.getElem?_eq_getElem h2⟩
  · rw [zipL_len, hx.len, hy.len]; omega
  · obtain ⟨T, x, z, rfl, hT, rfl, y1, y2⟩ := y
    obtain ⟨d, d', e1, e2, rfl⟩ := zipL_get e
    obtain ⟨v, e3, q⟩ := hx.get e1
    obtain ⟨u, e4, q'⟩ := hy.get e2
    have t1 := y1 vs ((h.mono f.S).list s.sle)
    have t2 := y2 us ((h'.mono f.S).list s.sle)
    rw [e3] at t1; rw [e4] at t2
    cases t1; cases t2
    exact pair_new s hT (q.mono f.S) (q'.mono f.S)
theorem src_zipT {K : PySem.W.Frag} {a b : Addr} {vs us : List V} {xs ys : List D} (h : Sat W w1.S a vs .tup) (hx : RpSL W w1.S xs vs) (h' : Sat W w1.S b us .tup) (hy : RpSL W w1.S ys us) : Src W w1 H1 (zipL xs ys) (RZ.ItzT K a b) := by
  refine ⟨fun f l hi => ?_, fun f l => ⟨vs, us, (h.mono f.S).tup l, (h'.mono f.S).tup l, ?_⟩, fun f s e y => ?_⟩
  · rw [zipL_len, hx.len, hy.len] at hi
    have h1 : _ < vs.length := Nat.lt_of_lt_of_le hi (Nat.min_le_left _ _)
    have h2 : _ < us.length := Nat.lt_of_lt_of_le hi (Nat.min_le_right _ _)
    exact ⟨vs, us, _, _, (h.mono f.S).tup l, (h'.mono f.S).tup l, List.getElem?_eq_getElem h1, List.getElem?_eq_getElem h2⟩
  · rw [zipL_len, hx.len, hy.len]; omega
  · obtain ⟨T, x, z, rfl, hT, rfl, y1, y2⟩ := y
    obtain ⟨d, d', e1, e2, rfl⟩ := zipL_get e
    obtain ⟨v, e3, q⟩ := hx.get e1
    obtain ⟨u, e4, q'⟩ := hy.get e2
    have t1 := y1 vs ((h.mono f.S).tup s.sle)
    have t2 := y2 us ((h'.mono f.S).tup s.sle)
    rw [e3] at t1; rw [e4] at t2
    cases t1; cases t2
    exact pair_new s hT (q.mono f.S) (q'.mono f.S)
theorem rev_get {xs : List D} {j : Nat} {d : D} (h : xs.reverse[j]? = some d) : xs[xs.length - 1 - j]? = some d := by
  have hj : j < xs.length := by
    have := (List.getElem?_eq_some_iff.mp h).1
    simpa using this
  rw [List.getElem?_reverse hj] at h
  exact h
theorem src_rev {K : PySem.W.Frag} {a : Addr} {vs : List V} {xs : List D} (h : Sat W w1.S a vs .lst) (hx : RpSL W w1.S xs vs) : Src W w1 H1 xs.reverse (Itv K a vs.length) := by
  have wk := walk_rev (K := K) (a := a) (xs := vs)
  refine ⟨fun f l hi => wk.goes _ _ (by rw [← hx.len]; simpa using hi) ((h.mono f.S).list l), fun f l => ?_, fun f s e y => ?_⟩
  · have := wk.stops _ ((h.mono f.S).list (K := K) l)
    rw [List.length_reverse, hx.len]; exact this
  · have e' := rev_get e
    have hi := (List.getElem?_eq_some_iff.mp e).1
    rw [List.length_reverse, hx.len] at hi
    obtain ⟨rfl, y'⟩ := wk.yields _ _ _ _ hi ((h.mono f.S).list s.sle) y
    obtain ⟨v, e1, q⟩ := hx.get e'
    rw [← hx.len] at y'
    rw [e1] at y'
    cases y'
    exact ⟨_, Fr.refl _ _, s, q.mono f.S⟩
/-- what is wanted of what is walked -/
def PostI (W : Wd) (w : Wh) (H : Hp) (σ : L2.St) (R : It → Hp → Prop) (E : L2.WX) : Rs (List D) → Prop
  | .ok xs st => ∀ w1 H1 J, Fr w H w1 noR H1 → SRep W w1 H1 σ st → Src W w1 H1 xs J → R J H1
  | .ex x st => PostX W w H E x st
  | .bad => False
def semI (W : Wd) (F : Cl) (E : L2.WX) (ci : CI) : TI := fun σ H R => ∃ w st, SRep W w H σ st ∧ PostI W w H σ R E (itD F ci st)
theorem piW {tg e : Expr} {t t' : TI} (h : PI X tg e t) (k : ∀ σ H R, t' σ H R → t σ H R) : PI X tg e t' := ⟨fun pins s σ H R I q => h.run pins s σ H R I (k σ H R q)⟩
/-- a list, a tuple or a text -/
def iAny (K : PySem.W.Frag) (te : TE) : TI := fun σ H R => te σ H fun v H1 => (∃ a, v = .ref a ∧ (∃ xs, SqL K H1 a xs) ∧ R (Itl K a) H1) ∨ (∃ a, v = .ref a ∧ (∃ xs, SqT K H1 a xs) ∧ R (Itt K a) H1) ∨ (∃ x, v = .str x ∧ R (Its x) H1)
theorem pi_any {tg e : Expr} {te : TE} (he : PE X e te) : PI X tg e (iAny X.K te) := by
  refine ⟨fun pins s σ H R I h => ?_⟩
  refine thn (he.run pins s σ H _ I h) fun v s1 ⟨y, H1, I1, r1, q1⟩ => ?_
  rcases q1 with ⟨a, e, ⟨xs, hq⟩, q⟩ | ⟨a, e, ⟨xs, hq⟩, q⟩ | ⟨x, ex, q⟩
  · subst e
    cases r1
    obtain ⟨its, rv, p, hz⟩ := I1.list hq
    refine wpAny_pyIter_list p.isList ?_
    refine ⟨s1.heap.objs.size, [s1.heap.objs.size], _, _, H1, rfl, I1.kept (t' := s1.toks) fun b o e => Heap.get?_push_of_some _ e, turn_list a _, ⟨_, Heap.get?_push_size _ rfl, rfl, rfl⟩, fun b hb => ?_, q⟩
    have e : b = s1.heap.objs.size := by simpa using hb
    subst e
    exact I1.fpOk (Nat.le_refl _) (I1.hok.fresh (Nat.le_refl _))
  · subst e
    cases r1
    obtain ⟨its, rv, p, hz⟩ := I1.tuple hq
    refine wpAny_pyIter_tuple (show s1.heap.IsTuple a its.toArray from p) ?_
    refine ⟨s1.heap.objs.size, [s1.heap.objs.size], _, _, H1, rfl, I1.kept (t' := s1.toks) fun b o e => Heap.get?_push_of_some _ e, turn_tuple a _, ⟨_, Heap.get?_push_size _ rfl, rfl, rfl⟩, fun b hb => ?_, q⟩
    have e : b = s1.heap.objs.size := by simpa using hb
    subst e
    exact I1.fpOk (Nat.le_refl _) (I1.hok.fresh (Nat.le_refl _))
  · subst ex
    obtain ⟨t, rfl⟩ := r1
    cases ha : x.cps.all (· < 128)
    · exact wpAny_pyIter_wide ha (pi_one (tk := s1.toks) I1 _ (turn_str _ x t "str_iterator" (.inr rfl)) ⟨_, Heap.get?_push_size _ rfl, rfl, rfl⟩ q)
    · exact wpAny_pyIter_ascii ha (pi_one (tk := s1.toks) I1 _ (turn_str _ x t "str_ascii_iterator" (.inl rfl)) ⟨_, Heap.get?_push_size _ rfl, rfl, rfl⟩ q)
theorem PostR.ofI {α : Type} {r : Rs α} {f : α → Sg → Rs (List D)} {R : It → Hp → Prop} (h : PostI W w H σ R E (r.bind f)) : PostR W w H E (fun a st => PostI W w H σ R E (f a st)) r := by cases r <;> exact h
theorem PostI.of {o : Option (List D)} {R : It → Hp → Prop} (h : PostI W w H σ R E (Rs.of o st)) : ∃ d, o = some d ∧ PostI W w H σ R E (.ok d st) := by
  cases o with
  | none => exact h.elim
  | some d => exact ⟨d, rfl, h⟩
theorem RpS.node {S : Hp} {o : Bool} {k : Kn} {xs : List D} {v : V} (h : RpS W S (.node o k xs) v) : ∃ a vs, v = .ref a ∧ Sat W S a vs k ∧ RpSL W S xs vs := by
  simp only [RpS] at h; exact h.2
theorem itv_snd {a : CE} {tg e : Expr} (g : Gd W F c X E) (S : PE X e (semE W F E a)) : PI X tg e (semI W F E (.val a)) := by
  refine piW (pi_any S) fun σ H R h => ?_
  obtain ⟨w, st, s, h⟩ := h
  have h' : PostI W w H σ R E ((ev F a st).bind fun d st => Rs.of (rowD d) st) := h
  refine evRead (Fr.refl w H) s (PostR.ofI h') fun y H1 w1 R1 d st1 f1 s1 hv h2 => ?_
  obtain ⟨xs, e, h3⟩ := PostI.of h2
  obtain ⟨f2, s2⟩ := frzA_snd f1 s1
  cases d with
  | str l =>
    cases e
    have : y = .str (cps l) := by simpa only [Rp] using hv
    subst this
    exact .inr (.inr ⟨_, rfl, h3 _ H1 _ f2 s2 src_str⟩)
  | node o k ys =>
    cases k with
    | lst =>
      obtain ⟨e1, e2, e3⟩ := stay_eq e
      obtain ⟨b, vs, rfl, q1, q2⟩ := (frzA_rp f1 (d := .node o .lst ys) (by simpa [D.nc] using e2) hv).node
      rw [← e1] at q2
      exact .inl ⟨b, rfl, ⟨vs, q1.list s2.sle⟩, h3 _ H1 _ f2 s2 (src_list (.inl q1) q2)⟩
    | tup =>
      obtain ⟨e1, e2, e3⟩ := stay_eq e
      obtain ⟨b, vs, rfl, q1, q2⟩ := (frzA_rp f1 (d := .node o .tup ys) (by simpa [D.nc] using e2) hv).node
      rw [← e1] at q2
      exact .inr (.inl ⟨b, rfl, ⟨vs, q1.tup s2.sle⟩, h3 _ H1 _ f2 s2 (src_tup q1 q2)⟩)
    | slst =>
      have e' : (if D.shL ys then some ys else none) = some xs := e
      split at e'
      · rename_i hs
        cases e'
        obtain ⟨e4, e5⟩ := shL_frz hs
        obtain ⟨b, vs, rfl, q1, q2⟩ := (frzA_rp f1 (d := .node o .slst xs) (by simpa [D.nc] using e5) hv).node
        rw [e4] at q2
        exact .inl ⟨b, rfl, ⟨vs, q1.slist s2.sle⟩, h3 _ H1 _ f2 s2 (src_list (.inr q1) q2)⟩
      · cases e'
    | _ => cases e
  | _ => cases e
end
end VS
/-! VS18b: enumerate of a list or a tuple. -/
namespace VS
open PySem PySem.Spec L2
open PyProof.Rows hiding St
set_option maxHeartbeats 1000000 in
theorem enum_new1 {v : Value} {o : Obj} {H : Heap → Prop} (B : Begins v o H) :
    Meets (Builtin.«enumerate.__new__» ⟨[.type "enumerate", v], []⟩) (fun _ R s => H s.heap ∧
      R (.ok (.ret (.ref (s.heap.push o).objs.size))) { s with heap := (s.heap.push o).push { cls := .type "enumerate", data := .fields #[.none, .bool false, .ref s.heap.objs.size, rawInt 0, .none, .none] } }) :=
  .of_wp fun prog w A R s h => by
    obtain ⟨hp, g, d, tk, os⟩ := s
    obtain ⟨h1, h⟩ := h
    have hsub := sub_enumerate
    have q1 : ∀ {A' : Around} {E : Value → Shared → Prop} {Q : Value → Shared → Prop}, Q (.ref hp.objs.size) ⟨hp.push o, g, d, tk, os⟩ → wpAny (model prog w) A' (pyIter v) Q E ⟨hp, g, d, tk, os⟩ :=
      fun q => B.iter prog w _ _ ⟨hp, g, d, tk, os⟩ _ h1 q
    wp_walk using q1
    refine wpAny_stack_any fun st => wpAny_pure ?_
    split
    · rename_i c _ _ _ _ _
      cases (c == Value.type "enumerate")
      · wp_walk using q1
        exact ⟨_, rfl, h⟩
      · wp_walk using q1
        exact ⟨_, rfl, h⟩
    · wp_walk using q1
      exact ⟨_, rfl, h⟩
theorem call_enum_tup {prog : Program} {w : World} {A : Around} {E : Value → Shared → Prop} {s : Shared} {l : Addr} {items : Array Value} {Q : Value → Shared → Prop} (hL : s.heap.IsTuple l items)
    (h : ∀ h', IsEnum h' (s.heap.objs.size + 1) s.heap.objs.size 0 .none → h'.IsTupleIter s.heap.objs.size l 0 → h'.objs.size = s.heap.objs.size + 2 →
      (∀ b o, s.heap.get? b = some o → h'.get? b = some o) → Q (.ref (s.heap.objs.size + 1)) { s with heap := h' }) :
    wpAny (model prog w) A (call (.type "enumerate") [.ref l]) Q E s := by
  refine callType_new F.called_enumerate (by decide) (F.typeCall_enumerate_1 _) (F.newCall_enumerate_1 _) (fun obj => F.args_object_init_2 obj _) F.entry_enumerate_new
    (enum_new1 (begins_tuple l items)) ⟨hL, ?_⟩
  have hz : (s.heap.push { cls := .type "tuple_iterator", data := .fields #[.ref l, .int 0 0] }).objs.size = s.heap.objs.size + 1 := Heap.size_push ..
  show _ ∧ _
  rw [hz]
  have he : IsEnum ((s.heap.push { cls := .type "tuple_iterator", data := .fields #[.ref l, .int 0 0] }).push
      { cls := .type "enumerate", data := .fields #[.none, .bool false, .ref s.heap.objs.size, rawInt 0, .none, .none] }) (s.heap.objs.size + 1) s.heap.objs.size 0 .none := by
    have := Heap.get?_push_size (s.heap.push { cls := .type "tuple_iterator", data := .fields #[.ref l, .int 0 0] })
      (o := { cls := .type "enumerate", data := .fields #[.none, .bool false, .ref s.heap.objs.size, rawInt 0, .none, .none] }) rfl
    rw [hz] at this; exact this
  refine ⟨⟨_, he, rfl⟩, h _ he ⟨_, Heap.get?_push_of_some _ (Heap.get?_push_size _ rfl), rfl, rfl⟩ (by rw [Heap.size_push, hz]) fun b o x => Heap.get?_push_of_some _ (Heap.get?_push_of_some _ x)⟩
def IteT (K : PySem.W.Frag) (a : Addr) : It :=
  ⟨fun i H => ∃ (xs : List V) (x : V), SqT K H a xs ∧ xs[i]? = some x, fun i H v H' => ∃ T x, v = .ref T ∧ H T = none ∧ H' = upd H T (.tup [.int (i : Nat), x]) ∧ ∀ xs, SqT K H a xs → xs[i]? = some x, fun i H => ∃ xs : List V, SqT K H a xs ∧ xs.length ≤ i⟩
theorem turn_enumT {P : Program} {w : World} {K : PySem.W.Frag} {elts : List Expr} {kk : Nat} {tpos : Pos} (a e it : Addr) :
    Turn P w K (.Tuple elts kk tpos) (IteT K a) [e, it] e (fun i h => (∃ old, IsEnum h e it ((i : Nat) : Int) old) ∧ h.IsTupleIter it a i ∧ e ≠ it) where
  mem := by simp
  obj := fun i h st b hb => by
    obtain ⟨⟨old, he⟩, ⟨o, ho, hc, hd⟩, _⟩ := st
    have e' : b = e ∨ b = it := by simpa using hb
    rcases e' with z | z
    · rw [z]; exact ⟨_, he, fun v q => nomatch q⟩
    · rw [z]; exact ⟨o, ho, fun v q => by rw [hd] at q; cases q⟩
  keep := fun i h h' st k => let ⟨⟨old, he⟩, hi, hne⟩ := st; ⟨⟨old, k e (by simp) _ he⟩, hi.at fun o q => k it (by simp) o q, hne⟩
  item := by
    intro X hP hw hK hc i pins s σ H E I hf st hg
    subst hP hw hK
    obtain ⟨⟨old, he⟩, hit, hne⟩ := st
    obtain ⟨xs, x, hq, hx⟩ := hg
    obtain ⟨its, rv, p, hz⟩ := I.tuple hq
    obtain ⟨u, hu, ru⟩ := rv.get hx
    have hel : e < s.heap.objs.size := Heap.lt_size he
    have hil : it < s.heap.objs.size := by obtain ⟨_, q, _⟩ := hit; exact Heap.lt_size q
    have hai : a ≠ it := fun z => by
      subst z
      obtain ⟨o, h1, h2, _⟩ := hit
      obtain ⟨o2, h3, h4, _⟩ := p
      rw [h1] at h3; cases h3; rw [h2] at h4; injection h4 with h4; exact absurd h4 (by decide)
    have hae : a ≠ e := fun z => by
      subst z
      obtain ⟨o2, h3, h4, _⟩ := p
      rw [show s.heap.get? a = _ from he] at h3; cases h3; injection h4 with h4; exact absurd h4 (by decide)
    have hiu : i < its.toArray.size := by
      have := (List.getElem?_eq_some_iff.mp hu).1
      simpa using this
    refine wpAny_pyNext_enum_itemD (Draws.tuple (A := X.A.in1) (I.ok.hd hc) it a hai its.toArray) he ⟨hit, p⟩ hiu hne (by simp [hne, hae.symm]) fun x' h' tk hx' ho hit' hT hsz hk => ?_
    have hxu : x' = u := by
      have : its.toArray[i]? = some u := by simpa using hu
      rw [this] at hx'
      exact (Option.some.inj hx').symm
    subst hxu
    refine ⟨_, rfl, wpAny_letOwnedTupleGo_enum (s := { s with heap := h', toks := tk + 1 }) ho fun h'' he' sb => ?_⟩
    have hT2 : h''.get? s.heap.objs.size = some { cls := .type "tuple", data := .seq #[.int i tk, x'] } := (sb.2 _ (Nat.ne_of_gt hel)).trans hT
    have new : ObjOk X.prog X.w (upd H s.heap.objs.size (.tup [.int (i : Nat), x])) h'' s.heap.objs.size (.tup [.int (i : Nat), x]) :=
      ⟨by show 2 ≤ sizeLine; decide, [.int i tk, x'], .cons ⟨_, rfl⟩ (.cons ru .nil), ⟨_, hT2, rfl, _, rfl⟩⟩
    have I1 : Inv X pins σ (upd H s.heap.objs.size (.tup [.int (i : Nat), x])) { s with heap := h'', toks := tk + 1 } :=
      I.turnedNew (ch := [e, it]) (fun b ob hb q => (sb.2 b (fun z => hb (by simp [z]))).trans (hk b ob (fun z => hb (by simp [z])) (fun z => hb (by simp [z])) q)) hf (Nat.le_refl _) new
    refine ⟨.ref s.heap.objs.size, _, I1, rfl, ⟨_, x, rfl, I.hok.fresh (Nat.le_refl _), rfl, fun ys hy => by rw [I.tuple_inj hy hq]; exact hx⟩, ⟨⟨x', ?_⟩, hit'.1.at fun o q => (sb.2 it (Ne.symm hne)).trans q, hne⟩, fun b hb => ?_⟩
    · have e1 : ((i + 1 : Nat) : Int) = (i : Int) + 1 := by omega
      rw [e1]; exact he'
    · have hb' : b < s.heap.objs.size := by
        have e' : b = e ∨ b = it := by simpa using hb
        rcases e' with z | z
        · rw [z]; exact hel
        · rw [z]; exact hil
      rw [upd_ne (Nat.ne_of_lt hb')]
      exact (hf b hb).1
  done := by
    intro X hP hw hK hc i pins s σ H E I hf st hg
    subst hP hw hK
    obtain ⟨⟨old, he⟩, hit, hne⟩ := st
    obtain ⟨xs, hq, hx⟩ := hg
    obtain ⟨its, rv, p, hz⟩ := I.tuple hq
    obtain ⟨f0, f1, f2, f3, f4, f5⟩ := hf it (by simp)
    have hl := rv.length
    have D : Draws X.prog X.w X.A.in1 it [it, a] i (fun _ _ => True) (fun j h => j = i ∧ h.IsTupleIter it a i ∧ h.IsTuple a its.toArray) :=
      { live := fun _ _ st => let ⟨o, ho, _⟩ := st.2.1; ⟨o, ho⟩
        frame := fun _ _ _ st hk => ⟨st.1, st.2.1.at fun o e => hk it (by simp) o e, st.2.2.at fun o e => hk a (by simp) o e⟩
        item := fun j s Q E hj st hQ => absurd hj (by rw [st.1]; exact Nat.lt_irrefl _)
        done := fun s Q E st hE => wpAny_nextOf_tuple_end (I.ok.hd hc) st.2.1 st.2.2 (by simp; omega) hE }
    exact wpAny_pyNext_enum_endD D he ⟨rfl, hit, p⟩ fun h' eb => ⟨rfl, I.turned (t' := s.toks) (fun b o hb q => eb b o hb q) f0 f1 f3 f4 f5⟩
  self := fun A i s Q E st h => let ⟨⟨_, he⟩, _⟩ := st; wpAny_pyIter_enum he h
def iEnumA (K : PySem.W.Frag) (ta : TA) : TI := fun σ H R => ta σ H fun vs H1 => ∃ a xs, vs = [.ref a] ∧ ((SqL K H1 a xs ∧ R (Ite K a) H1) ∨ (SqT K H1 a xs ∧ R (IteT K a) H1))
theorem pi_enumA {X : Cx} {e : Expr} {ta : TA} {p pos tpos : Pos} {elts : List Expr} {kk : Nat} (hg : Gl X "enumerate") (hm : X.mg "enumerate" = none) (ha : PA X [e] ta) (hs : starEach [e] X.env = [(false, eval e X.env)] := by rfl) :
    PI X (.Tuple elts kk tpos) (.Call (.Name "enumerate" p) [e] [] pos) (iEnumA X.K ta) := by
  refine ⟨fun pins s σ H R I h => ?_⟩
  refine Call_ (ld_blt I hg hm boot_enumerate (PyProof.Rows.callWith_type1 (thn (ha.run pos pins s σ H _ I h) fun us s1 ⟨vs, H1, I1, r1, q1⟩ => ?_) hs rfl))
  obtain ⟨a, xs, ex, q⟩ := q1
  subst ex
  cases r1 with
  | cons r rr =>
    cases rr
    cases r
    have fp : ∀ b ∈ [s1.heap.objs.size + 1, s1.heap.objs.size], s1.heap.objs.size ≤ b := fun b hb => by
      have e' : b = s1.heap.objs.size + 1 ∨ b = s1.heap.objs.size := by simpa using hb
      rcases e' with z | z
      · rw [z]; exact Nat.le_add_right _ _
      · rw [z]; exact Nat.le_refl _
    rcases q with ⟨hq, q⟩ | ⟨hq, q⟩
    · obtain ⟨its, rv, p', hz⟩ := I1.list hq
      refine call_enumerate_list p'.isList fun h' he hit hsz hk => wpAny_pyIter_enum he ?_
      have I2 : Inv X pins σ H1 { s1 with heap := h' } := I1.kept (t' := s1.toks) hk
      exact ⟨s1.heap.objs.size + 1, [s1.heap.objs.size + 1, s1.heap.objs.size], _, _, H1, rfl, I2, turn_enum a (s1.heap.objs.size + 1) s1.heap.objs.size, ⟨⟨.none, he⟩, hit, Nat.succ_ne_self _⟩, fun b hb => I1.fpOk (fp b hb) (I1.hok.fresh (fp b hb)), q⟩
    · obtain ⟨its, rv, p', hz⟩ := I1.tuple hq
      refine call_enum_tup p' fun h' he hit hsz hk => wpAny_pyIter_enum he ?_
      have I2 : Inv X pins σ H1 { s1 with heap := h' } := I1.kept (t' := s1.toks) hk
      exact ⟨s1.heap.objs.size + 1, [s1.heap.objs.size + 1, s1.heap.objs.size], _, _, H1, rfl, I2, turn_enumT a (s1.heap.objs.size + 1) s1.heap.objs.size, ⟨⟨.none, he⟩, hit, Nat.succ_ne_self _⟩, fun b hb => I1.fpOk (fp b hb) (I1.hok.fresh (fp b hb)), q⟩
section
variable {W : Wd} {w w1 : Wh} {H H1 : Hp}
theorem src_enumT {K : PySem.W.Frag} {a : Addr} {vs : List V} {xs : List D} (h : Sat W w1.S a vs .tup) (hx : RpSL W w1.S xs vs) : Src W w1 H1 (enumL 0 xs) (IteT K a) := by
  refine ⟨fun f l hi => ?_, fun f l => ⟨vs, (h.mono f.S).tup l, by rw [enumL_len, hx.len]; exact Nat.le_refl _⟩, fun f s e y => ?_⟩
  · rw [enumL_len, hx.len] at hi
    exact ⟨vs, _, (h.mono f.S).tup l, List.getElem?_eq_getElem hi⟩
  · obtain ⟨T, x, rfl, hT, rfl, y⟩ := y
    obtain ⟨d, e1, rfl⟩ := enumL_get e
    obtain ⟨v, e2, q⟩ := hx.get e1
    have := y vs ((h.mono f.S).tup s.sle)
    rw [e2] at this
    cases this
    simp only [Int.zero_add]
    exact pair_new s hT (rpS_int _) (q.mono f.S)
end
end VS
/-! VS19: range, enumerate, zip, reversed; targets. -/
namespace VS
open PySem PySem.Spec L2
open PyProof.Rows hiding St
section
variable {W : Wd} {F : Cl} {c : Ck} {X : Cx} {E : L2.WX} {w w1 w2 : Wh} {H H1 H2 : Hp} {R Ra Rb R1 : Own} {σ : L2.St} {st : Sg} {Q : VK}
theorem gl_of (g : Gd W F c X E) {x : Str} (h : glB c.sc x = true) : Gl X x := by show X.env.scope.names.lookup x = _; rw [g.sc]; exact of_decide_eq_true h
theorem itr1_snd {a : CE} {tg e : Expr} {p pos : Pos} (g : Gd W F c X E) (S : PE X e (semE W F E a)) (hn : noStar e = true) (hg : glB c.sc "range" = true) : PI X tg (.Call (.Name "range" p) [e] [] pos) (semI W F E (.rng1 a)) := by
  refine piW (pi_range1 (gl_of g hg) (g.blt _ (by decide)) (pa_cons S pa_nil (starEach_cons hn)) (starEach_cons hn)) fun σ H R h => ?_
  obtain ⟨w, st, s, h⟩ := h
  have h' : PostI W w H σ R E ((ev F a st).bind fun d st => match d with
      | .int j => if small62 j then .ok (rngL 0 j.toNat) st else .bad
      | _ => .bad) := h
  refine evRead (Fr.refl w H) s (PostR.ofI h') fun y H1 w1 R1 d st1 f1 s1 hv h2 => ?_
  cases d with
  | int j =>
    have : y = .int j := by simpa only [Rp] using hv
    subst this
    have h3 : PostI W w H σ R E (if small62 j then .ok (rngL 0 j.toNat) st1 else .bad) := h2
    split at h3
    · rename_i hs
      exact ⟨j, rfl, by have := hs.1; omega, by have := hs.2; omega, h3 _ H1 _ f1.noR s1 src_rng⟩
    · exact h3.elim
  | _ => exact h2.elim
theorem itr2_snd {a b : CE} {tg e e2 : Expr} {p pos : Pos} (g : Gd W F c X E) (S : PE X e (semE W F E a)) (S2 : PE X e2 (semE W F E b)) (hn : noStar e = true) (hn2 : noStar e2 = true) (hg : glB c.sc "range" = true) :
    PI X tg (.Call (.Name "range" p) [e, e2] [] pos) (semI W F E (.rng2 a b)) := by
  refine piW (pi_range2 (gl_of g hg) (g.blt _ (by decide)) (pa_cons S (pa_cons S2 pa_nil (starEach_cons hn2)) (starEach_cons hn)) (by rw [starEach_cons hn, starEach_cons hn2]; rfl) (starEach_cons hn2)) fun σ H R h => ?_
  obtain ⟨w, st, s, h⟩ := h
  have h' : PostI W w H σ R E ((ev F a st).bind fun d st => (ev F b st).bind fun e st => match d, e with
      | .int i, .int j => if small62 i ∧ small62 j then .ok (rngL i (j - i).toNat) st else .bad
      | _, _ => .bad) := h
  refine evRead (Fr.refl w H) s (PostR.ofI h') fun y H1 w1 R1 d st1 f1 s1 hv h2 => ?_
  refine evRead f1 s1 (PostR.ofI h2) fun z H2 w2 R2 d2 st2 f2 s2 hu h3 => ?_
  cases d with
  | int i =>
    have : y = .int i := by simpa only [Rp] using hv
    subst this
    cases d2 with
    | int j =>
      have : z = .int j := by simpa only [Rp] using hu
      subst this
      have h4 : PostI W w H σ R E (if small62 i ∧ small62 j then .ok (rngL i (j - i).toNat) st2 else .bad) := h3
      split at h4
      · rename_i hs
        obtain ⟨⟨q1, q2⟩, q3, q4⟩ := hs
        exact ⟨i, j, rfl, ⟨by omega, by omega, by omega, by omega⟩, h4 _ H2 _ (f1.trans f2).noR s2 src_rng⟩
      · exact h4.elim
    | _ => exact h3.elim
  | _ => cases d2 <;> exact h3.elim
theorem ite_snd {a : CE} {e : Expr} {p pos tpos : Pos} {elts : List Expr} {kk : Nat} (g : Gd W F c X E) (S : PE X e (semE W F E a)) (hn : noStar e = true) (hg : glB c.sc "enumerate" = true) :
    PI X (.Tuple elts kk tpos) (.Call (.Name "enumerate" p) [e] [] pos) (semI W F E (.enum a)) := by
  refine piW (pi_enumA (gl_of g hg) (g.blt _ (by decide)) (pa_cons S pa_nil (starEach_cons hn)) (starEach_cons hn)) fun σ H R h => ?_
  obtain ⟨w, st, s, h⟩ := h
  have h' : PostI W w H σ R E ((ev F a st).bind fun d st => (Rs.of (rowE d) st).bind fun xs st => .ok (enumL 0 xs) st) := h
  refine evRead (Fr.refl w H) s (PostR.ofI h') fun y H1 w1 R1 d st1 f1 s1 hv h2 => ?_
  obtain ⟨xs, e, h3⟩ := PostR.of (PostR.ofI h2)
  obtain ⟨f2, s2⟩ := frzA_snd f1 s1
  match d, e with
  | .node o .lst ys, e =>
    obtain ⟨e1, e2, e3⟩ := stay_eq e
    obtain ⟨b, vs, rfl, q1, q2⟩ := (frzA_rp f1 (d := .node o .lst ys) (by simpa [D.nc] using e2) hv).node
    rw [← e1] at q2
    exact ⟨b, vs, rfl, .inl ⟨q1.list s2.sle, h3 _ H1 _ f2 s2 (src_enum q1 q2)⟩⟩
  | .node o .tup ys, e =>
    obtain ⟨e1, e2, e3⟩ := stay_eq e
    obtain ⟨b, vs, rfl, q1, q2⟩ := (frzA_rp f1 (d := .node o .tup ys) (by simpa [D.nc] using e2) hv).node
    rw [← e1] at q2
    exact ⟨b, vs, rfl, .inr ⟨q1.tup s2.sle, h3 _ H1 _ f2 s2 (src_enumT q1 q2)⟩⟩
theorem itv2_snd {a : CE} {tg e : Expr} {p pos : Pos} (g : Gd W F c X E) (S : PE X e (semE W F E a)) (hn : noStar e = true) (hg : glB c.sc "reversed" = true) :
    PI X tg (.Call (.Name "reversed" p) [e] [] pos) (semI W F E (.rev a)) := by
  refine piW (pi_reversed (gl_of g hg) (g.blt _ (by decide)) (pa_cons S pa_nil (starEach_cons hn)) (starEach_cons hn)) fun σ H R h => ?_
  obtain ⟨w, st, s, h⟩ := h
  have h' : PostI W w H σ R E ((ev F a st).bind fun d st => (Rs.of (rowL d) st).bind fun xs st => .ok xs.reverse st) := h
  refine evRead (Fr.refl w H) s (PostR.ofI h') fun y H1 w1 R1 d st1 f1 s1 hv h2 => ?_
  obtain ⟨xs, e, h3⟩ := PostR.of (PostR.ofI h2)
  obtain ⟨f2, s2⟩ := frzA_snd f1 s1
  match d, e with
  | .node o .lst ys, e =>
    obtain ⟨e1, e2, e3⟩ := stay_eq e
    obtain ⟨b, vs, rfl, q1, q2⟩ := (frzA_rp f1 (d := .node o .lst ys) (by simpa [D.nc] using e2) hv).node
    rw [← e1] at q2
    exact ⟨b, vs, rfl, q1.list s2.sle, h3 _ H1 _ f2 s2 (src_rev q1 q2)⟩
theorem itz_snd {a b : CE} {e e2 : Expr} {p pos tpos : Pos} {elts : List Expr} {kk : Nat} (g : Gd W F c X E) (S : PE X e (semE W F E a)) (S2 : PE X e2 (semE W F E b)) (hn : noStar e = true) (hn2 : noStar e2 = true) (hg : glB c.sc "zip" = true) :
    PI X (.Tuple elts kk tpos) (.Call (.Name "zip" p) [e, e2] [] pos) (semI W F E (.zip a b)) := by
  refine piW (RZ.pi_zipA (gl_of g hg) (g.blt _ (by decide)) (pa_cons S (pa_cons S2 pa_nil (starEach_cons hn2)) (starEach_cons hn)) (starEach_cons hn) (plain_star (by simp [hn2]))) fun σ H R h => ?_
  obtain ⟨w, st, s, h⟩ := h
  have h' : PostI W w H σ R E ((ev F a st).bind fun d st => (ev F b st).bind fun e st => Rs.of (rowZ d e) st) := h
  refine evRead (Fr.refl w H) s (PostR.ofI h') fun y H1 w1 R1 d st1 f1 s1 hv h2 => ?_
  refine evRead f1 s1 (PostR.ofI h2) fun z H2 w2 R2 d2 st2 f2 s2 hu h3 => ?_
  obtain ⟨zs, e, h4⟩ := PostI.of h3
  have ft := f1.trans f2
  obtain ⟨f3, s3⟩ := frzA_snd ft s2
  have hv' : Rp W (w2.wth (ownU R1 R2)) H2 (.temp 0) d none y := held_left (f1.held f2 hv)
  have hu' : Rp W (w2.wth (ownU R1 R2)) H2 (.temp 0) d2 none z := held_right (f1.apart f2) hu
  have split2 : ∀ {xs ys : List D}, ((stay xs).bind fun xs => (stay ys).bind fun ys => some (zipL xs ys)) = some zs → ∃ xs' ys', stay xs = some xs' ∧ stay ys = some ys' ∧ zs = zipL xs' ys' := by
    intro xs ys h
    cases e1 : stay xs with
    | none => rw [e1] at h; cases h
    | some xs' =>
      rw [e1] at h
      cases e2 : stay ys with
      | none => rw [e2] at h; cases h
      | some ys' =>
        rw [e2] at h
        simp only [Option.bind_some, Option.some.injEq] at h
        exact ⟨xs', ys', rfl, rfl, h.symm⟩
  match d, d2, e with
  | .node o .lst xs, .node o2 .lst ys, e =>
    obtain ⟨xs', ys', e1, e2, rfl⟩ := split2 e
    obtain ⟨e1, n1, _⟩ := stay_eq e1
    obtain ⟨e2, n2, _⟩ := stay_eq e2
    obtain ⟨b, vs, rfl, q1, q2⟩ := (frzA_rp ft (d := .node o .lst xs) (by simpa [D.nc] using n1) hv').node
    obtain ⟨b2, us, rfl, q3, q4⟩ := (frzA_rp ft (d := .node o2 .lst ys) (by simpa [D.nc] using n2) hu').node
    rw [← e1] at q2
    rw [← e2] at q4
    exact ⟨b, b2, vs, us, rfl, .inl ⟨q1.list s3.sle, q3.list s3.sle, h4 _ H2 _ f3 s3 (src_zip q1 q2 q3 q4)⟩⟩
  | .node o .tup xs, .node o2 .tup ys, e =>
    obtain ⟨xs', ys', e1, e2, rfl⟩ := split2 e
    obtain ⟨e1, n1, _⟩ := stay_eq e1
    obtain ⟨e2, n2, _⟩ := stay_eq e2
    obtain ⟨b, vs, rfl, q1, q2⟩ := (frzA_rp ft (d := .node o .tup xs) (by simpa [D.nc] using n1) hv').node
    obtain ⟨b2, us, rfl, q3, q4⟩ := (frzA_rp ft (d := .node o2 .tup ys) (by simpa [D.nc] using n2) hu').node
    rw [← e1] at q2
    rw [← e2] at q4
    exact ⟨b, b2, vs, us, rfl, .inr ⟨q1.tup s3.sle, q3.tup s3.sle, h4 _ H2 _ f3 s3 (src_zipT q1 q2 q3 q4)⟩⟩
end
end VS
/-! VS20: targets, plain statements. -/
namespace VS
open PySem PySem.Spec L2
open PyProof.Rows hiding St
section
variable {W : Wd} {F : Cl} {c : Ck} {X : Cx} {E : L2.WX} {w w1 w2 : Wh} {H H1 H2 : Hp} {R Ra Rb R1 : Own} {σ : L2.St} {st : Sg} {Q : VK} {DD : Ends}
/-- a held thing comes under a name -/
theorem set_slot {i : Nat} {d : D} {v : V} (fr : Fr w H w1 R1 H1) (s : SRep W w1 H1 σ st) (h : Rp W (w1.wth R1) H1 (.temp 0) d none v) (hi : i < st.sl.length) :
    ∃ w2, Fr w H w2 noR H1 ∧ SRep W w2 H1 (σ.set i (some v)) { st with sl := st.sl.set i (some d) } := by
  have kp : ∀ r, Kp w1 ⟨w1.S, ownU w1.own (ren (fun _ => .slot i) R1), w1.io⟩ H1 H1 r r := fun r => ⟨SLe.refl _, fun _ _ h => h, fun _ _ h => ownU_left h, fun _ _ _ _ h => h⟩
  have apart : ∀ a, R1 a ≠ none → w1.own a = none := fun a h => (fr.R a h).1
  refine ⟨⟨w1.S, ownU w1.own (ren (fun _ => .slot i) R1), w1.io⟩, ⟨fr.S, fr.io, fun x hx => ?_, fun _ h => absurd rfl h, fr.Sd, fr.keep, fun _ h => absurd rfl h⟩, ⟨s.sle, fun a t ht => ?_, s.iol, fun n c hc => ?_, fun j c hc => ?_, by simpa using s.len⟩⟩
  · rcases ownU_ne hx with q | q
    · exact fr.dom x q
    · exact fr.domR x (ren_ne.mp q)
  · have ht' : ownU w1.own (ren (fun _ => .slot i) R1) a ≠ none := by rw [show ownU w1.own (ren (fun _ => .slot i) R1) a = some t from ht]; simp
    rcases ownU_ne ht' with q | q
    · cases e : w1.own a with
      | none => exact absurd e q
      | some t2 => exact s.sno a t2 e
    · exact (fr.R a (ren_ne.mp q)).2
  · obtain ⟨a, e, q⟩ := s.cel n c hc
    exact ⟨a, e, Rp.mono (kp _) q⟩
  · rcases set_get hc with ⟨e1, e2⟩ | ⟨e1, e2⟩
    · subst e1
      cases e2
      have hi' : i < σ.length := by rw [← s.len]; exact hi
      refine ⟨v, by rw [List.getElem?_set_self hi'], ?_⟩
      refine Rp.mono (w := w1.wth R1) (w' := ⟨w1.S, ownU w1.own (ren (fun _ => .slot i) R1), w1.io⟩) (H := H1) (H' := H1) (r := .temp 0) (r' := .slot i) ⟨SLe.refl _, fun _ _ h => h, fun a p h => ?_, fun _ _ _ _ h => h⟩ h
      have h' : R1 a = some (.temp 0, p) := h
      exact (show ownU w1.own (ren (fun _ => .slot i) R1) a = ren (fun _ => .slot i) R1 a from ownU_right (apart a (by rw [h']; simp))).trans (ren_some (f := fun _ => .slot i) h')
    · obtain ⟨u, e3, q⟩ := s.slo j c e2
      exact ⟨u, by rw [List.getElem?_set_ne e1]; exact e3, Rp.mono (kp _) q⟩
/-- a held thing is stored by a target -/
theorem tg_sizes : ∀ {t : Tg} {d : D} {st st' : Sg}, tgD t d st = some st' → st'.sl.length = st.sl.length ∧ st'.m = st.m := by
  intro t
  refine Tg.rec (motive_1 := fun t => ∀ {d : D} {st st' : Sg}, tgD t d st = some st' → st'.sl.length = st.sl.length ∧ st'.m = st.m) (motive_2 := fun ts => ∀ {xs : List D} {st st' : Sg}, tgL ts xs st = some st' → st'.sl.length = st.sl.length ∧ st'.m = st.m) ?_ ?_ ?_ ?_ t
  · intro i d st st' h
    simp only [tgD] at h
    split at h
    · cases h; exact ⟨by simp, rfl⟩
    · cases h
  · intro ts ih d st st' h
    cases d with
    | node o k xs => cases k <;> simp only [tgD] at h <;> first | exact ih h | cases h
    | _ => simp only [tgD] at h; cases h
  · intro xs st st' h
    cases xs with
    | nil => simp only [tgL, Option.some.injEq] at h; subst h; exact ⟨rfl, rfl⟩
    | cons => simp [tgL] at h
  · intro t ts h1 h2 xs st st' h
    cases xs with
    | nil => simp [tgL] at h
    | cons x xs =>
      simp only [tgL] at h
      split at h
      · cases e : tgD t x st with
        | none => rw [e] at h; cases h
        | some st1 =>
          rw [e] at h
          have a := h1 e
          have b := h2 (show tgL ts xs st1 = some st' from h)
          exact ⟨b.1.trans a.1, b.2.trans a.2⟩
      · cases h
/-- the text of a target -/
def vTupS : Expr → Option (List Expr)
  | .Tuple es _ _ => some es
  | _ => none
mutual
def chkTg (c : Ck) : Tg → Expr → Bool
  | .nm i, e => (match vName e with | some x => decide (c.N[i]? = some x) && locB c x && !dbB x | none => false)
  | .tup ts, e => (match vTup e with | some es => c.calm && chkTgs c ts es | none => false)
def chkTgs (c : Ck) : List Tg → List Expr → Bool
  | [], [] => true
  | t :: ts, e :: es => chkTg c t e && chkTgs c ts es
  | _, _ => false
end
mutual
/-- the names that a target stores -/
def tgS : Tg → List Nat
  | .nm i => [i]
  | .tup ts => tgSs ts
def tgSs : List Tg → List Nat
  | [] => []
  | t :: ts => tgS t ++ tgSs ts
end
/-- alike but under these names -/
def Alike (is : List Nat) (σ σ' : L2.St) : Prop := σ'.length = σ.length ∧ ∀ j, j ∉ is → σ'[j]? = σ[j]?
theorem Alike.trans {is js : List Nat} {a b c : L2.St} (x : Alike is a b) (y : Alike js b c) : Alike (is ++ js) a c := ⟨y.1.trans x.1, fun j h => by
  simp only [List.mem_append, not_or] at h
  exact (y.2 j h.2).trans (x.2 j h.1)⟩
def semG (W : Wd) (t : Tg) : TG := fun v σ H Q => ∃ w R w0 H0 st d st', Fr w0 H0 w R H ∧ SRep W w H σ st ∧ Rp W (w.wth R) H (.temp 0) d none v ∧ tgD t d st = some st' ∧ ∀ w' σ', Fr w0 H0 w' noR H → SRep W w' H σ' st' → Alike (tgS t) σ σ' → Q σ' H
def semGs (W : Wd) (ts : List Tg) : TGs := fun vs σ H Q => ∃ w w0 H0 st xs st', Fr w0 H0 w noR H ∧ SRep W w H σ st ∧ RpAL W w noR H xs vs ∧ tgL ts xs st = some st' ∧ ∀ w' σ', Fr w0 H0 w' noR H → SRep W w' H σ' st' → Alike (tgSs ts) σ σ' → Q σ' H
theorem pgW {e : Expr} {t t' : TG} (h : PG X e t) (k : ∀ v σ H Q, t' v σ H Q → t v σ H Q) : PG X e t' := ⟨fun pins s σ H v u Q I r q => h.run pins s σ H v u Q I r (k v σ H Q q)⟩
theorem pgsW {e : List Expr} {t t' : TGs} (h : PGs X e t) (k : ∀ v σ H Q, t' v σ H Q → t v σ H Q) : PGs X e t' := ⟨fun pins s σ H vs us Q I r q => h.run pins s σ H vs us Q I r (k vs σ H Q q)⟩
theorem loc_of (g : Gd W F c X E) {x : Str} (h : locB c x = true) : Loc X.env.scope x ∧ (X.fn x = true ∨ X.env.scope.names.lookup x = some .local) := by
  rw [g.sc]
  unfold locB at h
  simp only [Bool.or_eq_true, Bool.and_eq_true, decide_eq_true_eq] at h
  rcases h with h | ⟨h0, h⟩
  · exact ⟨.inl h, .inr h⟩
  · exact ⟨.inr h, .inl (g.fn h0 x h)⟩
theorem assignEach_no : ∀ {es : List Expr} {env : Env}, es.all noStar = true → (assignEach es env).length = es.length ∧ (assignEach es env).findIdx? (·.1) = none
  | [], _, _ => ⟨rfl, rfl⟩
  | e :: es, env, h => by
    simp only [List.all_cons, Bool.and_eq_true] at h
    have ih := assignEach_no (env := env) h.2
    have e1 : assignEach (e :: es) env = (false, assign e env) :: assignEach es env := by
      cases e <;> first | rfl | (simp [noStar] at h)
    rw [e1]
    refine ⟨by simp [ih.1], ?_⟩
    rw [List.findIdx?_cons]
    simp only [Bool.false_eq_true, if_false, ih.2, Option.map_none]
theorem chkTg_ns {c : Ck} : ∀ {t : Tg} {e : Expr}, chkTg c t e = true → noStar e = true := by
  intro t e h
  cases e <;> first | rfl | (cases t <;> simp [chkTg, vName, vTup] at h)
theorem chkTgs_ns {c : Ck} : ∀ {ts : List Tg} {es : List Expr}, chkTgs c ts es = true → es.all noStar = true ∧ ts.length = es.length
  | [], [], _ => ⟨rfl, rfl⟩
  | t :: ts, e :: es, h => by
    simp only [chkTgs, Bool.and_eq_true] at h
    obtain ⟨a, b⟩ := chkTgs_ns h.2
    exact ⟨by simp [chkTg_ns h.1, a], by simp [b]⟩
  | [], _ :: _, h => by simp [chkTgs] at h
  | _ :: _, [], h => by simp [chkTgs] at h
theorem tgL_len : ∀ {ts : List Tg} {xs : List D} {st st' : Sg}, tgL ts xs st = some st' → ts.length = xs.length
  | [], [], _, _, _ => rfl
  | [], _ :: _, _, _, h => by simp [tgL] at h
  | _ :: _, [], _, _, h => by simp [tgL] at h
  | t :: ts, x :: xs, st, st', h => by
    simp only [tgL] at h
    split at h
    · cases e : tgD t x st with
      | none => rw [e] at h; cases h
      | some st1 =>
        rw [e] at h
        have := tgL_len (show tgL ts xs st1 = some st' from h)
        simp [this]
    · cases h
theorem RpA.alT {d : D} {v : V} (al : d.al = true) (h : RpA W w R H d v) : Rp W (w.wth noR) H (.temp 0) d none v := by
  obtain ⟨r, p, h | h⟩ := h
  · exact Rp.alw (w := w) (w' := w.wth noR) (fun h => h) (fun _ _ h => h) al h
  · exact Rp.alw (w := w.wth R) (w' := w.wth noR) (fun h => h) (fun _ _ h => h) al h
theorem RpA.fr0 {d : D} {v : V} (al : d.al = true) (f : Fr w H w2 noR H) (h : RpA W w noR H d v) : RpA W w2 noR H d v := by
  obtain ⟨r, p, h | h⟩ := h
  · exact ⟨.temp 0, none, .inl (Rp.alw (w := w) (w' := w2) (fun h => h.mono f.S) f.io al h)⟩
  · exact ⟨.temp 0, none, .inl (Rp.alw (w := w.wth noR) (w' := w2) (fun h => h.mono f.S) f.io al h)⟩
/-- which of them are not held alone -/
def alL : List D → Bool
  | [] => true
  | x :: r => x.al && alL r
theorem tgL_al : ∀ {ts : List Tg} {xs : List D} {st st' : Sg}, tgL ts xs st = some st' → alL xs = true
  | [], [], _, _, _ => rfl
  | [], _ :: _, _, _, h => by simp [tgL] at h
  | _ :: _, [], _, _, h => by simp [tgL] at h
  | t :: ts, x :: xs, st, st', h => by
    simp only [tgL] at h
    split at h
    · rename_i al
      cases e : tgD t x st with
      | none => rw [e] at h; cases h
      | some st1 =>
        rw [e] at h
        have := tgL_al (show tgL ts xs st1 = some st' from h)
        simp [alL, al, this]
    · cases h
theorem RpAL.fr0 : ∀ {xs : List D} {vs : List V}, alL xs = true → (∀ {d : D} {v : V}, d.al = true → RpA W w noR H d v → RpA W w2 noR H d v) → RpAL W w noR H xs vs → RpAL W w2 noR H xs vs
  | [], _, _, _, h => by simpa only [RpAL] using h
  | x :: xs, vs, al, f, h => by
    simp only [alL, Bool.and_eq_true] at al
    simp only [RpAL] at h ⊢
    obtain ⟨v, s, e, q, t⟩ := h
    exact ⟨v, s, e, f al.1 q, RpAL.fr0 al.2 f t⟩
/-- .. a tuple or a list of that length -/
def gSeq (K : PySem.W.Frag) (n : Nat) (t : TGs) : TG := fun v σ H Q => gTup K n t v σ H Q ∨ gLst K n t v σ H Q
theorem pg_seq {pos : Pos} {es : List Expr} {k : Nat} {t : TGs} {n : Nat} (hc : X.calm = true) (h : PGs X es t) (hn : (assignEach es X.env).length = n) (hst : (assignEach es X.env).findIdx? (·.1) = none) : PG X (.Tuple es k pos) (gSeq X.K n t) :=
  ⟨fun pins s σ H v u Q I r q => q.elim (fun q => (pg_tup hc h hn hst).run pins s σ H v u Q I r q) fun q => (pg_lst hc h hn hst).run pins s σ H v u Q I r q⟩
theorem tg_snd (g : Gd W F c X E) : ∀ (t : Tg) {e : Expr}, chkTg c t e = true → PG X e (semG W t) := by
  intro t
  refine Tg.rec (motive_1 := fun t => ∀ {e : Expr}, chkTg c t e = true → PG X e (semG W t)) (motive_2 := fun ts => ∀ {es : List Expr}, chkTgs c ts es = true → PGs X es (semGs W ts)) ?_ ?_ ?_ ?_ t
  · intro i e h
    simp only [chkTg] at h
    cases ec : vName e with
    | none => rw [ec] at h; cases h
    | some x =>
      rw [ec] at h
      obtain ⟨p, rfl⟩ := vName_eq ec
      simp only [Bool.and_eq_true, decide_eq_true_eq] at h
      obtain ⟨⟨h1, h2⟩, _⟩ := h
      obtain ⟨h3, h4⟩ := loc_of g h2
      refine pgW (pg_name (by rw [g.N]; exact g.nd) (by rw [g.N]; exact h1) h3 h4) fun v σ H Q h => ?_
      obtain ⟨w, R, w0, H0, st, d, st', f, s, hv, e, k⟩ := h
      simp only [tgD] at e
      split at e
      · rename_i hi
        cases e
        obtain ⟨w2, f2, s2⟩ := set_slot f s hv hi
        exact k w2 _ f2 s2 ⟨by simp, fun j hj => List.getElem?_set_ne (fun z => hj (by simp [tgS, z]))⟩
      · cases e
  · intro ts ih e h
    simp only [chkTg] at h
    cases ec : vTup e with
    | none => rw [ec] at h; cases h
    | some es =>
      rw [ec] at h
      obtain ⟨k, p, rfl⟩ := vTup_eq ec
      have h0 : (c.calm && chkTgs c ts es) = true := h
      rw [Bool.and_eq_true] at h0
      obtain ⟨hcm, h⟩ := h0
      obtain ⟨n1, n2⟩ := chkTgs_ns h
      obtain ⟨n3, n4⟩ := assignEach_no (env := X.env) n1
      refine pgW (pg_seq (n := es.length) (g.calm hcm) (ih h) n3 n4) fun v σ H Q h => ?_
      obtain ⟨w, R, w0, H0, st, d, st', f, s, hv, e, kk⟩ := h
      cases d with
      | node o kn xs =>
        cases kn with
        | tup =>
          have e' : tgL ts xs st = some st' := by simpa only [tgD] using e
          obtain ⟨a, vs, rfl, q1, q2⟩ := (RpA.held (R := R) hv).tupl X.K s
          have al := tgL_al e'
          refine .inl ⟨a, vs, rfl, q1, by rw [← q2.len, ← tgL_len e', n2], w, w0, H0, st, xs, st', f.noR, s, ?_, e', kk⟩
          clear e' e hv q1 kk
          induction xs generalizing vs with
          | nil => simpa only [RpAL] using q2
          | cons x xs ih2 =>
            simp only [alL, Bool.and_eq_true] at al
            simp only [RpAL] at q2 ⊢
            obtain ⟨v, r, rfl, q3, q4⟩ := q2
            exact ⟨v, r, rfl, RpA.held (R := noR) (q3.alT al.1), ih2 r q4 al.2⟩
        | lst =>
          have e' : tgL ts xs st = some st' := by simpa only [tgD] using e
          obtain ⟨a, vs, rfl, q1, q2⟩ := (RpA.held (R := R) hv).list X.K s
          have al := tgL_al e'
          refine .inr ⟨a, vs, rfl, q1, by rw [← q2.len, ← tgL_len e', n2], w, w0, H0, st, xs, st', f.noR, s, ?_, e', kk⟩
          clear e' e hv q1 kk
          induction xs generalizing vs with
          | nil => simpa only [RpAL] using q2
          | cons x xs ih2 =>
            simp only [alL, Bool.and_eq_true] at al
            simp only [RpAL] at q2 ⊢
            obtain ⟨v, r, rfl, q3, q4⟩ := q2
            exact ⟨v, r, rfl, RpA.held (R := noR) (q3.alT al.1), ih2 r q4 al.2⟩
        | _ => simp only [tgD] at e; cases e
      | _ => simp only [tgD] at e; cases e
  · intro es h
    cases es with
    | nil =>
      refine pgsW pgs_nil fun vs σ H Q h => ?_
      obtain ⟨w, w0, H0, st, xs, st', f, s, hx, e, k⟩ := h
      cases xs with
      | nil =>
        simp only [tgL, Option.some.injEq] at e
        subst e
        simp only [RpAL] at hx
        exact ⟨hx, k w σ f s ⟨rfl, fun _ _ => rfl⟩⟩
      | cons => simp [tgL] at e
    | cons => simp [chkTgs] at h
  · intro t ts h1 h2 es h
    cases es with
    | nil => simp [chkTgs] at h
    | cons e es =>
      simp only [chkTgs, Bool.and_eq_true] at h
      have n0 := chkTg_ns h.1
      refine pgsW (pgs_cons (h1 h.1) (h2 h.2) (by cases e <;> first | rfl | (simp [noStar] at n0))) fun vs σ H Q h => ?_
      obtain ⟨w, w0, H0, st, xs, st', f, s, hx, e, k⟩ := h
      cases xs with
      | nil => simp [tgL] at e
      | cons x xs =>
        have al := tgL_al e
        simp only [alL, Bool.and_eq_true] at al
        simp only [tgL, al.1, if_true] at e
        simp only [RpAL] at hx
        obtain ⟨v, r, rfl, q, q2⟩ := hx
        cases e1 : tgD t x st with
        | none => rw [e1] at e; cases e
        | some st1 =>
          rw [e1] at e
          refine ⟨v, r, rfl, w, noR, w, H, st, x, st1, Fr.refl w H, s, q.alT al.1, e1, fun w2 σ2 f2 s2 a2 => ?_⟩
          exact ⟨w2, w0, H0, st1, xs, st', (f.trans f2).noR, s2, RpAL.fr0 al.2 (fun a b => b.fr0 a f2) q2, e, fun w' σ' f' s' a' => k w' σ' f' s' (a2.trans a')⟩
end
end VS
/-! VS21: statements. -/
namespace VS
open PySem PySem.Spec L2
open PyProof.Rows hiding St
/-- what is wanted of a statement -/
def PostS (W : Wd) (w : Wh) (H : Hp) (DD : Ends) (E : L2.WX) : Ob → Prop
  | .nx st => ∀ w' σ' H', Fr w H w' noR H' → SRep W w' H' σ' st → DD.nx σ' H'
  | .rt d st => ∀ w' R σ' H' v, Fr w H w' R H' → SRep W w' H' σ' st → Rp W (w'.wth R) H' (.temp 0) d none v → DD.rt v H'
  | .ex x st => PostX W w H E x st
  | .bad => False
def semS (W : Wd) (F : Cl) (E : L2.WX) (cs : CS) : TS := fun DD σ H => ∃ w st, SRep W w H σ st ∧ PostS W w H DD E (xst F cs st)
def semSs (W : Wd) (F : Cl) (E : L2.WX) (cs : CSs) : TS := fun DD σ H => ∃ w st, SRep W w H σ st ∧ PostS W w H DD E (xss F cs st)
section
variable {W : Wd} {F : Cl} {c : Ck} {X : Cx} {E : L2.WX} {w w1 w2 : Wh} {H H1 H2 : Hp} {R Ra Rb R1 : Own} {σ : L2.St} {st : Sg} {Q : VK} {DD : Ends}
theorem psW {e : Stmt} {t t' : TS} (h : PS X e t) (k : ∀ DD σ H, t' DD σ H → t DD σ H) : PS X e t' := ⟨fun pins s σ H DD I q => h.run pins s σ H DD I (k DD σ H q)⟩
theorem pssW {e : List Stmt} {t t' : TS} (h : PSs X e t) (k : ∀ DD σ H, t' DD σ H → t DD σ H) : PSs X e t' := ⟨fun pins s σ H DD I q => h.run pins s σ H DD I (k DD σ H q)⟩
theorem PostS.shift {o : Ob} (fr : Fr w H w1 noR H1) (h : PostS W w H DD E o) : PostS W w1 H1 DD E o := by
  cases o with
  | nx st => exact fun w' σ' H' f s => h w' σ' H' (fr.trans f).noR s
  | rt d st => exact fun w' R σ' H' v f s hv => h w' R σ' H' v ((fr.trans f).less fun x hx => by unfold ownU; exact hx) s hv
  | ex x st => exact PostX.shift fr h
  | bad => exact h
theorem PostR.ofS {α : Type} {r : Rs α} {f : α → Sg → Ob} (h : PostS W w H DD E (r.ob f)) : PostR W w H E (fun a st => PostS W w H DD E (f a st)) r := by cases r <;> exact h
/-- one after another -/
theorem PostS.seq {o : Ob} {f : Sg → Ob} {N : L2.St → Hp → Prop} (h : PostS W w H DD E (o.bind f)) (fr : Fr w H w1 noR H1) (k : ∀ w2 σ2 H2 st2, Fr w H w2 noR H2 → SRep W w2 H2 σ2 st2 → PostS W w H DD E (f st2) → N σ2 H2) (ct : L2.St → Hp → Prop) (bk : L2.St → Hp → Prop) :
    PostS W w1 H1 { DD with nx := N, ct := ct, bk := bk } E o := by
  cases o with
  | nx st => exact fun w' σ' H' g s => k w' σ' H' st (fr.trans g).noR s h
  | rt d st => exact fun w' R σ' H' v g s hv => h w' R σ' H' v ((fr.trans g).less fun x hx => by unfold ownU; exact hx) s hv
  | ex x st => exact PostX.shift fr h
  | bad => exact h
theorem ss_nil : PSs X [] (semSs W F E .nil) := pssW pss_nil fun DD σ H h => by
  obtain ⟨w, st, s, h⟩ := h
  exact h w σ H (Fr.refl w H) s
theorem ss_cons {a : CS} {r : CSs} {s : Stmt} {ss : List Stmt} (h1 : PS X s (semS W F E a)) (h2 : PSs X ss (semSs W F E r)) : PSs X (s :: ss) (semSs W F E (.cons a r)) := pssW (pss_cons h1 h2) fun DD σ H h => by
  obtain ⟨w, st, s, h⟩ := h
  have h' : PostS W w H DD E ((xst F a st).bind fun st => xss F r st) := h
  refine ⟨w, st, s, ?_⟩
  exact PostS.seq h' (Fr.refl w H) (fun w2 σ2 H2 st2 f2 s2 q => ⟨w2, st2, s2, q.shift f2⟩) DD.ct DD.bk
/-- names forgotten -/
theorem wipe_get : ∀ {is : List Nat} {sl : List (Option D)} {j : Nat} {d : D}, (wipe is sl)[j]? = some (some d) → sl[j]? = some (some d) ∧ j ∉ is
  | [], _, _, _, h => ⟨h, by simp⟩
  | i :: is, sl, j, d, h => by
    simp only [wipe] at h
    rcases set_get h with ⟨_, e⟩ | ⟨e, h2⟩
    · cases e
    · obtain ⟨a, b⟩ := wipe_get h2
      exact ⟨a, by simp only [List.mem_cons, not_or]; exact ⟨fun z => e z.symm, b⟩⟩
theorem wipe_len : ∀ {is : List Nat} {sl : List (Option D)}, (wipe is sl).length = sl.length
  | [], _ => rfl
  | i :: is, sl => by simp [wipe, wipe_len]
theorem SRep.kill {is : List Nat} (s : SRep W w H σ st) : SRep W w H σ (killL is st) :=
  ⟨s.sle, s.sno, s.iol, s.cel, fun i d h => s.slo i d (wipe_get h).1, by show (wipe is st.sl).length = _; rw [wipe_len]; exact s.len⟩
theorem ss_kill {is : List Nat} {r : CSs} {ss : List Stmt} (h2 : PSs X ss (semSs W F E r)) : PSs X ss (semSs W F E (.cons (.kill is) r)) := pssW h2 fun DD σ H h => by
  obtain ⟨w, st, s, h⟩ := h
  exact ⟨w, killL is st, s.kill, h⟩
theorem ss_frs {i : Nat} {r : CSs} {ss : List Stmt} (h2 : PSs X ss (semSs W F E r)) : PSs X ss (semSs W F E (.cons (.frs i) r)) := pssW h2 fun DD σ H h => by
  obtain ⟨w, st, s, h⟩ := h
  have h' : PostS W w H DD E ((frsO i st).bind fun st => xss F r st) := h
  unfold frsO at h'
  cases e : (st.sl[i]?).join with
  | none => simp only [e] at h'; exact h'.elim
  | some d =>
    by_cases nc : d.nc = true
    · simp only [e, nc, if_true] at h'
      obtain ⟨v, e1, q1, s1⟩ := frz_slot s (slot_some e) nc
      exact ⟨_, _, s1, PostS.shift (frz_fr s) h'⟩
    · simp only [e, nc] at h'; exact h'.elim
theorem ss_frc {i : Nat} {r : CSs} {ss : List Stmt} (h2 : PSs X ss (semSs W F E r)) : PSs X ss (semSs W F E (.cons (.frc i) r)) := pssW h2 fun DD σ H h => by
  obtain ⟨w, st, s, h⟩ := h
  have h' : PostS W w H DD E ((frcO i st).bind fun st => xss F r st) := h
  unfold frcO at h'
  cases e : (st.sl[i]?).join with
  | none => simp only [e] at h'; exact h'.elim
  | some x =>
    cases x with
    | cell n =>
      simp only [e] at h'
      cases e2 : st.m[n]? with
      | none => simp only [e2] at h'; exact h'.elim
      | some d =>
        by_cases nc : d.nc = true
        · simp only [e2, nc, if_true] at h'
          exact ⟨_, _, frz_cell s (slot_some e) e2 nc, PostS.shift (frz_fr s) h'⟩
        · simp only [e2, nc] at h'; exact h'.elim
    | _ => simp only [e] at h'; exact h'.elim
/-- no comprehension -/
def noComp : Expr → Bool
  | .ListComp _ _ _ _ => false
  | .SetComp _ _ _ _ => false
  | .DictComp _ _ _ _ _ => false
  | _ => true
theorem sw_no {e : Expr} {t : Option Expr} {l : Nat} {env : Env} (h : noComp e = true) : swapsWith e t l env = pure false := by
  cases e <;> first | rfl | (simp [noComp] at h)
/-- the target isn't a row that is stored from the right -/
def okSw : Expr → Expr → Bool
  | .Tuple ts _ _, .Tuple _ _ _ => !(ts.length == 2 || ts.length == 3)
  | .List _ _, _ => false
  | _, _ => true
theorem sws_no {t e : Expr} {env : Env} (h : okSw t e = true) : swappedStores [t] e env = pure none := by
  unfold swappedStores
  cases t with
  | Tuple ts k p =>
    cases e with
    | Tuple vs k2 p2 =>
      simp only [okSw, Bool.not_eq_true'] at h
      simp only [h]
      rfl
    | _ => rfl
  | List => simp [okSw] at h
  | _ => rfl
theorem as1 {e : Expr} {env : Env} (h : noStar e = true) : (assignEach [e] env).map (·.2) = [assign e env] := by
  cases e <;> first | rfl | (simp [noStar] at h)
theorem s_asg {t : Tg} {e : CE} {te ee : Expr} {p : Pos} (g : Gd W F c X E) (S : PE X ee (semE W F E e)) (ht : chkTg c t te = true) (h1 : noComp ee = true) (h2 : okSw te ee = true) : PS X (.Assign [te] ee p) (semS W F E (.asg t e)) := by
  refine psW (ps_asg S (tg_snd g t ht) (sw_no h1) (sws_no h2) (as1 (chkTg_ns ht))) fun DD σ H h => ?_
  obtain ⟨w, st, s, h⟩ := h
  have h' : PostS W w H DD E ((ev F e st).ob fun d st => (Rs.of (tgD t d st) st).ob fun st' _ => .nx st') := h
  refine evRead (Fr.refl w H) s (PostR.ofS h') fun v H1 w1 R1 d st1 f1 s1 hv h2 => ?_
  obtain ⟨st', e1, h3⟩ := PostR.of (PostR.ofS h2)
  exact ⟨w1, R1, w, H, st1, d, st', f1, s1, hv, e1, fun w' σ' f' s' _ => h3 w' σ' H1 f' s'⟩
theorem iop_snd (o : Bop) (ho : o = .add ∨ o = .sub ∨ o = .or ∨ o = .and ∨ o = .shr) : ∃ r : TIp, PIp X (opOf o) r ∧ ∀ {da db d : D} {x y : V} {w : Wh} {R : Own} {H : Hp} {Q : VK}, bopD o da db = some d → (∃ i, da = .int i) → RpA W w R H da x → RpA W w R H db y → (∀ i, d = .int i → Q (.int i) H) → r x y H Q := by
  have k0 : ∀ {gi : Int → Int → Int}, OpR X (inplaceOp (opOf o)) (rI0 fun i j => .int (gi i j)) → (∀ i db d, bopD o (.int i) db = some d → ∃ j, db = .int j ∧ d = .int (gi i j)) → ∃ r : TIp, PIp X (opOf o) r ∧ ∀ {da db d : D} {x y : V} {w : Wh} {R : Own} {H : Hp} {Q : VK}, bopD o da db = some d → (∃ i, da = .int i) → RpA W w R H da x → RpA W w R H db y → (∀ i, d = .int i → Q (.int i) H) → r x y H Q := by
    intro gi h1 h2
    refine ⟨_, h1, ?_⟩
    intro da db d x y w R H Q e hi hx hy q
    obtain ⟨i, rfl⟩ := hi
    obtain ⟨j, rfl, rfl⟩ := h2 _ _ _ e
    exact ⟨i, j, hx.int, hy.int, q _ rfl⟩
  rcases ho with rfl | rfl | rfl | rfl | rfl
  · exact k0 iop_add fun i db d h => by cases db <;> simp [bopD] at h; exact ⟨_, rfl, h.symm⟩
  · exact k0 iop_sub fun i db d h => by cases db <;> simp [bopD] at h; exact ⟨_, rfl, h.symm⟩
  · exact k0 iop_or fun i db d h => by cases db <;> simp [bopD] at h; exact ⟨_, rfl, h.symm⟩
  · exact k0 iop_and fun i db d h => by cases db <;> simp [bopD] at h; exact ⟨_, rfl, h.symm⟩
  · refine ⟨_, iop_shr, ?_⟩
    intro da db d x y w R H Q e hi hx hy q
    obtain ⟨i, rfl⟩ := hi
    cases db <;> simp [bopD] at e
    exact ⟨i, _, hx.int, hy.int, e.1, q _ e.2.symm⟩
theorem s_aug {i : Nat} {o : Bop} {e : CE} {x : Str} {ee : Expr} {p p2 : Pos} (g : Gd W F c X E) (S : PE X ee (semE W F E e)) (ho : o = .add ∨ o = .sub ∨ o = .or ∨ o = .and ∨ o = .shr) (hi : c.N[i]? = some x) (hx : locB c x = true) :
    PS X (.AugAssign (.Name x p2) (opOf o) ee p) (semS W F E (.aug i o e)) := by
  obtain ⟨r, h1, h2⟩ := iop_snd (W := W) (X := X) o ho
  obtain ⟨h3, h4⟩ := loc_of g hx
  refine psW (ps_aug (by rw [g.N]; exact g.nd) (by rw [g.N]; exact hi) h3 S h1 h4) fun DD σ H h => ?_
  obtain ⟨w, st, s, h⟩ := h
  have h' : PostS W w H DD E ((Rs.of ((st.sl[i]?).join) st).ob fun _ st => (ev F e st).ob fun d st => (Rs.of (((st.sl[i]?).join).bind fun x => augD o x d) st).ob fun y st => .nx { st with sl := st.sl.set i (some y) }) := h
  obtain ⟨d0, e0, h'⟩ := PostR.of (PostR.ofS h')
  obtain ⟨x0, ex0, _⟩ := s.slo i d0 (slot_some e0)
  refine ⟨x0, ex0, evRead (Fr.refl w H) s (PostR.ofS h') fun y H1 w1 R1 d st1 f1 s1 hv h2' => ?_⟩
  obtain ⟨z, e2, h3'⟩ := PostR.of (PostR.ofS h2')
  cases e3 : (st1.sl[i]?).join with
  | none => rw [e3] at e2; cases e2
  | some dx =>
    rw [e3] at e2
    obtain ⟨x1, ex1, q1⟩ := s1.slo i dx (slot_some e3)
    rw [ex0] at ex1
    cases ex1
    cases dx with
    | int j =>
      have e2' : bopD o (.int j) d = some z := e2
      refine h2 (w := w1) (R := R1) e2' ⟨j, rfl⟩ (RpA.of q1) (RpA.held hv) fun k hk => ?_
      subst hk
      have hlen : i < st1.sl.length := (List.getElem?_eq_some_iff.mp (slot_some e3)).1
      obtain ⟨w2, f2, s2⟩ := set_slot (d := .int k) (v := .int k) f1.noR s1 (by simp only [Rp]) hlen
      exact h3' w2 _ H1 f2 s2
    | _ => cases e2
theorem s_ex {e : CE} {ee : Expr} {p : Pos} (g : Gd W F c X E) (S : PE X ee (semE W F E e)) (h1 : noComp ee = true) : PS X (.Expr ee p) (semS W F E (.ex e)) := by
  refine psW (ps_expr S (sw_no h1)) fun DD σ H h => ?_
  obtain ⟨w, st, s, h⟩ := h
  have h' : PostS W w H DD E ((ev F e st).ob fun _ st => .nx st) := h
  exact evRead (Fr.refl w H) s (PostR.ofS h') fun v H1 w1 R1 d st1 f1 s1 hv h2 => h2 w1 σ H1 f1.noR s1
theorem s_ret {e : CE} {ee : Expr} {p : Pos} (g : Gd W F c X E) (S : PE X ee (semE W F E e)) : PS X (.Return (some ee) p) (semS W F E (.ret e)) := by
  refine psW (ps_ret S) fun DD σ H h => ?_
  obtain ⟨w, st, s, h⟩ := h
  have h' : PostS W w H DD E ((ev F e st).ob fun d st => .rt d st) := h
  exact evRead (Fr.refl w H) s (PostR.ofS h') fun v H1 w1 R1 d st1 f1 s1 hv h2 => h2 w1 R1 σ H1 v f1 s1 hv
theorem s_retN {p : Pos} (g : Gd W F c X E) : PS X (.Return none p) (semS W F E .retN) := by
  refine psW ps_retN fun DD σ H h => ?_
  obtain ⟨w, st, s, h⟩ := h
  have h' : PostS W w H DD E (.rt .non st) := h
  exact h' w noR σ H .non (Fr.refl w H) s (by simp only [Rp])
theorem s_rai {k : String} {es : CEs} {ee : Expr} {p1 p p2 : Pos} (g : Gd W F c X E) (hcm : c.calm = true) (hk : k ∈ c.xs) (hgl : glB c.sc (sn k) = true) (hdb : dbB (sn k) = false) (S : SndL W F es E X [ee]) :
    PS X (.Raise (some (.Call (.Name (sn k) p1) [ee] [] p)) none p2) (semS W F E (.rai k es)) := by
  obtain ⟨hkx, f, hf, hr⟩ := g.rai k hk
  have hns := S.ns
  simp only [List.all_cons, Bool.and_eq_true] at hns
  have hg : Gl X (sn k) := by show X.env.scope.names.lookup (sn k) = _; rw [g.sc]; exact of_decide_eq_true hgl
  refine psW (ps_raise (g.calm hcm) g.tk (hr X (Kin.refl X) rfl ee (semV W F E es) p1 p hns.1 hg hdb (S.v 0))) fun DD σ H h => ?_
  obtain ⟨w, st, s, h⟩ := h
  have h' : PostS W w H DD E ((evv F es st).ob fun ds st => raiD F k ds st) := h
  refine ⟨w, st, s, ?_⟩
  have := PostR.stepL (σ := σ) (j := 0) (Fr.refl w H) (PostR.ofS h')
  revert this
  cases evv F es st with
  | bad => exact fun this => this
  | ex x st2 => exact fun this => this
  | ok ds st2 =>
    intro this w2 Rb H2 vs f2 s2 h2
    obtain ⟨w2', Rb', ds', st2', e2, _, _, _, q2⟩ := this w2 Rb H2 vs f2 s2 h2
    cases e2
    match ds, h2, q2 with
    | [], _, q2 => exact q2.elim
    | _ :: _ :: _, _, q2 => exact q2.elim
    | [d], h2, q2 =>
      have q3 : PostS W w H DD E (if d.nc then .ex ⟨k, [f], [d.frz]⟩ st2 else .bad) := by
        have e : raiD F k [d] st2 = if d.nc then .ex ⟨k, [f], [d.frz]⟩ st2 else .bad := by unfold raiD; rw [hf]
        rw [← e]; exact q2
      by_cases hn : d.nc = true
      · rw [if_pos hn] at q3
        simp only [RpT] at h2
        obtain ⟨v, r, rfl, hv, rfl⟩ := h2
        refine ⟨by simp, fun a ha => ⟨a, v, rfl, upd_same, fun dx hdx hne => ?_⟩⟩
        have hdx2 : H2 dx = none := by rw [upd_ne hne] at hdx; exact hdx
        refine ⟨rfl, dx, [(sn f, v)], upd_same, by rw [upd_ne hne, upd_same], hdx2, ?_⟩
        have eH : upd (L2.del (upd (upd (upd H2 a (exo a (W.cls k) none)) dx (exd dx [(sn f, v)])) a (exo a (W.cls k) (some dx))) a) dx (.xd [(sn f, v)]) = upd H2 dx (.xd [(sn f, v)]) := by
          funext b
          by_cases hb : b = dx
          · subst hb; rw [upd_same, upd_same]
          · rw [upd_ne hb, upd_ne hb]
            by_cases hba : b = a
            · subst hba; rw [del_same]; exact ha.symm
            · rw [del_ne hba, upd_ne hba, upd_ne hb, upd_ne hba]
        rw [eH]
        obtain ⟨f3, s3⟩ := frzA_snd f2 s2
        have hv2 := frzA_rp f2 hn hv
        obtain ⟨f4, s4⟩ := grow (o := .xd [(sn f, v)]) (Fr.refl _ H2) s3 hdx2
        exact q3 _ σ _ dx [v] (f3.trans f4).noR s4 (by simp only [RpSL]; exact ⟨v, [], rfl, hv2.mono f4.S, rfl⟩) upd_same ⟨rfl, hkx⟩
      · rw [if_neg hn] at q3; exact q3.elim
/-! ### try -/
theorem SRep.drop {i : Nat} (s : SRep W w H σ st) : SRep W w H (σ.set i none) { st with sl := st.sl.set i none } := by
  refine ⟨s.sle, s.sno, s.iol, s.cel, fun j d h => ?_, by simp [s.len]⟩
  have h' : (st.sl.set i none)[j]? = some (some d) := h
  rcases set_get h' with ⟨_, e⟩ | ⟨e, h2⟩
  · cases e
  · obtain ⟨v, e1, q⟩ := s.slo j d h2
    exact ⟨v, by rw [List.getElem?_set_ne e]; exact e1, q⟩
theorem out_snd {i : Option Nat} (s : SRep W w H σ st) : SRep W w H (nmOut i σ) (outN i st) := by
  cases i with
  | none => exact s
  | some i => exact s.drop
theorem in_snd {i : Option Nat} {x : Xc} {a dd : Addr} {oe : Obj} {vs : List V} (ok : okH i st = true) (fr : Fr w H w1 noR H1) (s : SRep W w1 H1 σ st) (na : H1 a = none) (hz : Zc (.ref (W.cls x.c)) (some dd) oe) (hf : ∃ fs, oe.data = .fields fs)
    (q1 : RpSL W w1.S x.xs vs) (q2 : w1.S dd = some (.xd (zipK (x.ns.map sn) vs))) (q3 : x.ns.length = vs.length ∧ x.c ∈ W.xs) :
    ∃ w2, Fr w H w2 noR (upd H1 a (.frz oe (.own dd))) ∧ SRep W w2 (upd H1 a (.frz oe (.own dd))) (nmIn i a σ) (inH i x st) := by
  obtain ⟨f2, s2⟩ := grow (o := .frz oe (.own dd)) fr s na
  cases i with
  | none => exact ⟨_, f2, s2⟩
  | some i =>
    have le : SLe w1.S (upd w1.S a (.frz oe (.own dd))) := fun b u h => by
      have hb : b ≠ a := fun z => by subst z; exact (s.sle b u h).ne na
      rw [upd_ne hb]; exact h
    have hx : RpS W (upd w1.S a (.frz oe (.own dd))) (excD x) (.ref a) := by
      simp only [excD, RpS, RpSL]
      refine ⟨trivial, a, [.ref dd], rfl, ⟨_, upd_same, oe, dd, rfl, rfl, hz.1, hz.2, hf, q3.2⟩, .ref dd, [], rfl, ⟨trivial, dd, vs, rfl, ⟨_, le _ _ q2, rfl, by simpa using q3.1⟩, q1.mono le⟩, rfl⟩
    obtain ⟨w3, f3, s3⟩ := set_slot (i := i) (d := excD x) (v := .ref a) f2 s2 (Rp.of_sh (w := Wh.wth _ noR) hx) (of_decide_eq_true ok)
    exact ⟨w3, f3, s3⟩
def lH (W : Wd) (F : Cl) : HDs → List (Value × Option Nat × (Addr → TS))
  | .nil => []
  | .cons c i s r => (.ref (W.cls c), i, fun _ => semSs W F E0 s) :: lH W F r
def inXs (W : Wd) : HDs → Prop
  | .nil => True
  | .cons c _ _ r => c ∈ W.xs ∧ inXs W r
theorem wV_snd (g : IsiOk W F.sub X.K) {x : Xc} {w' : Wh} {σ' : L2.St} {H' : Hp} {dd : Addr} {vs : List V} (fr : Fr w H w' noR H') (s : SRep W w' H' σ' st) (q1 : RpSL W w'.S x.xs vs) (q2 : w'.S dd = some (.xd (zipK (x.ns.map sn) vs))) (q3 : x.ns.length = vs.length ∧ x.c ∈ W.xs) :
    ∀ (hs : HDs), inXs W hs → PostS W w H DD E (xhs F hs x st) → wV X.K E DD (lH W F hs) (.ref (W.cls x.c)) (some dd) σ' H'
  | .nil, _, h => h w' σ' H' dd vs fr s q1 q2 q3
  | .cons c i b r, hx, h => by
    have h' : PostS W w H DD E (if F.sub x.c c then (if okH i st then outH i (xss F b (inH i x st)) else .bad) else xhs F r x st) := h
    refine ⟨F.sub x.c c, g.exm _ q3.2 _ hx.1, fun hb => ⟨dd, rfl, fun a oe na hz hf => ?_⟩, fun hb => ?_⟩
    · rw [hb, if_pos rfl] at h'
      by_cases ok : okH i st = true
      · rw [if_pos ok] at h'
        obtain ⟨w2, f2, s2⟩ := in_snd ok fr s na hz hf q1 q2 q3
        refine ⟨w2, _, s2, ?_⟩
        revert h'
        cases xss F b (inH i x st) with
        | bad => exact fun h => h
        | ex _ _ => exact fun h => h.elim
        | nx st2 => exact fun h w4 σ4 H4 f4 s4 => h w4 _ H4 (f2.trans f4).noR (out_snd s4)
        | rt d st2 => exact fun h w4 R4 σ4 H4 v f4 s4 hv => h w4 R4 _ H4 v ((f2.trans f4).less fun x hx => by unfold ownU; exact hx) (out_snd (i := i) s4) hv
      · rw [if_neg ok] at h'; exact h'.elim
    · rw [hb] at h'
      exact wV_snd g fr s q1 q2 q3 r hx.2 h'
theorem s_try {b e : CSs} {hs : HDs} {sb se : List Stmt} {h0 : ExceptHandler} {hd : List ExceptHandler} {p : Pos} (g : Gd W F c X E) (htr : c.tr = true) (Se : PSs X se (semSs W F E e)) (hx : inXs W hs) (Hh : HdV X (h0 :: hd) (lH W F hs))
    (Sb : ∀ (E' : L2.WX) (pn : List (Addr × Obj)) (xe : Value → Shared → Prop), Takes (X.tr pn xe) E' → PassesOwn (model X.prog X.w) X.A X.env xe → PSs (X.tr pn xe) sb (semSs W F E' b)) : PS X (.Try sb (h0 :: hd) se [] p) (semS W F E (.try_ b hs e)) := by
  obtain ⟨k1, k2, k3⟩ := g.stk htr
  refine psW (ps_tryV Se k1 k2 k3 (by rw [g.N]; exact g.nd) g.tk Sb Hh) fun DD σ H h => ?_
  obtain ⟨w, st, s, h⟩ := h
  have h' : PostS W w H DD E (tryO (xss F b st) (xhs F hs) (xss F e)) := h
  refine ⟨w, st, s, ?_⟩
  revert h'
  cases xss F b st with
  | bad => exact fun h => h
  | nx st1 => exact fun h w' σ' H' f s => ⟨w', st1, s, PostS.shift f h⟩
  | rt d st1 => exact fun h => h
  | ex x st1 => exact fun h w' σ' H' dd vs f s q1 q2 q3 => wV_snd g.isi f s q1 q2 q3 hs hx h
theorem Gd.tr {pn : List (Addr × Obj)} {xe : Value → Shared → Prop} {E' : L2.WX} (g : Gd W F c X E) (tk : Takes (X.tr pn xe) E') (po : PassesOwn (model X.prog X.w) X.A X.env xe) : Gd W F c (X.tr pn xe) E' where
  K := g.K
  sc := g.sc
  N := g.N
  nd := g.nd
  calm := g.calm
  tk := tk
  po := po
  un := g.un
  grd := g.grd
  fn := g.fn
  gl := g.gl
  con := g.con
  blt := g.blt
  cls := g.cls
  na := g.na
  cse := g.cse
  tse := g.tse
  tsg := g.tsg
  nax := g.nax
  xae := g.xae
  stk := g.stk
  clg := g.clg
  isi := g.isi
  cal := fun f hf => by
    obtain ⟨fa, h1, h2, h3⟩ := g.cal f hf
    exact ⟨fa, h1, h2, fun X' E' k tk => h3 X' E' ⟨k.prog, k.w, k.K, k.mg, k.base, k.A⟩ tk⟩
  hot := fun f hf => by
    obtain ⟨fa, h1, h2, h3⟩ := g.hot f hf
    exact ⟨fa, h1, h2, fun X' E' k tk => h3 X' E' ⟨k.prog, k.w, k.K, k.mg, k.base, k.dp, k.un, k.gd⟩ tk⟩
  met := fun k hk m hm f hf => by
    obtain ⟨fa, h1, h3⟩ := g.met k hk m hm f hf
    exact ⟨fa, h1, fun X' E' k tk => h3 X' E' ⟨k.prog, k.w, k.K, k.mg, k.base, k.A⟩ tk⟩
  scm := fun q hq f hf => by
    obtain ⟨C, mc, fa, h1, h2, h4, h5, h3⟩ := g.scm q hq f hf
    exact ⟨C, mc, fa, h1, h2, h4, h5, fun X' E' k tk => h3 X' E' ⟨k.prog, k.w, k.K, k.mg, k.base, k.A⟩ tk⟩
  mak := fun k hk => by
    obtain ⟨h1, h3⟩ := g.mak k hk
    exact ⟨h1, fun X' E' k tk => h3 X' E' ⟨k.prog, k.w, k.K, k.mg, k.base, k.A⟩ tk⟩
  rai := fun k hk => by
    obtain ⟨h1, f, h2, h3⟩ := g.rai k hk
    exact ⟨h1, f, h2, fun Y kin hA => h3 Y ⟨kin.prog, kin.w, kin.K, kin.mg, kin.base, kin.A⟩ hA⟩
theorem Gd.su {a : Addr} {pn : List (Addr × Obj)} (g : Gd W F c X E) : Gd W F c.suite (X.suite a pn) E0 where
  K := g.K
  sc := g.sc
  N := g.N
  nd := g.nd
  calm := fun h => by cases h
  tk := fun u s' ⟨a, B, sI, pins, σ, H, cls, d, e, I, nb, up, sky, na, os, ag, w⟩ => w.elim
  po := PassesOwn.never
  un := g.un
  grd := g.grd
  fn := g.fn
  gl := g.gl
  con := g.con
  blt := g.blt
  cls := g.cls
  na := g.na
  cse := fun e h => by cases h
  tse := g.tse
  tsg := g.tsg
  nax := g.nax
  xae := g.xae
  stk := fun h => by cases h
  clg := fun e h => by cases h
  isi := g.isi
  cal := fun f hf => by
    obtain ⟨fa, h1, h2, h3⟩ := g.hot f hf
    exact ⟨fa, h1, h2, fun X' E' k tk => h3 X' E' ⟨k.prog, k.w, k.K, k.mg, k.base, by rw [k.A]; rfl, by rw [k.A]; rfl, by rw [k.A]; rfl⟩ tk⟩
  hot := fun f hf => by cases hf
  met := fun k hk m hm => by cases hm
  scm := fun q hq => by cases hq
  mak := fun k hk => by cases hk
  rai := fun k hk => by cases hk
theorem s_pass {p : Pos} : PS X (.Pass p) (semS W F E .pass) := by
  refine psW ps_pass fun DD σ H h => ?_
  obtain ⟨w, st, s, h⟩ := h
  exact h w σ H (Fr.refl w H) s
theorem s_ifs {e : CE} {a b : CSs} {ee : Expr} {sa sb : List Stmt} {p : Pos} (g : Gd W F c X E) (S : PT X ee (semT W F E e)) (Sa : PSs X sa (semSs W F E a)) (Sb : PSs X sb (semSs W F E b)) : PS X (.If ee sa sb p) (semS W F E (.ifs e a b)) := by
  refine psW (ps_if S Sa Sb) fun DD σ H h => ?_
  obtain ⟨w, st, s, h⟩ := h
  have h' : PostS W w H DD E ((tst F e st).ob fun t st => if t then xss F a st else xss F b st) := h
  refine tsRead (Fr.refl w H) s (PostR.ofS h') fun k H2 w2 st2 f2 s2 h2 => ?_
  cases k with
  | true => rw [if_pos rfl]; exact ⟨w2, st2, s2, PostS.shift f2 h2⟩
  | false => rw [if_neg Bool.false_ne_true]; exact ⟨w2, st2, s2, PostS.shift f2 h2⟩
theorem fold_no {e : Expr} {env : Env} (h : isSet e = false) : ∀ x, foldedSetIterable e env x = pure x := by
  intro x
  cases e <;> first | rfl | (simp [isSet] at h)
theorem s_for {t : Tg} {ci : CI} {body : CSs} {te ie : Expr} {sb : List Stmt} {p : Pos} (g : Gd W F c X E) (hcm : c.calm = true) (ht : chkTg c t te = true) (Si : PI X te ie (semI W F E ci)) (Sb : PSs X sb (semSs W F E body)) (hs : isSet ie = false) :
    PS X (.For te ie sb [] p) (semS W F E (.for_ t ci body)) := by
  refine psW (ps_for g.po (g.calm hcm) Si (tg_snd g t ht) Sb (fold_no hs)) fun DD σ H h => ?_
  obtain ⟨w, st, s, h⟩ := h
  have h' : PostS W w H DD E ((itD F ci st).ob fun l st => forL (fun x st => (Rs.of (tgD t x st) st).ob fun st' _ => xss F body st') l st) := h
  refine ⟨w, st, s, ?_⟩
  have h1 := PostR.ofS h'
  revert h1
  cases itD F ci st with
  | bad => exact fun h1 => h1
  | ex x st1 => exact fun h1 => h1
  | ok xs st1 =>
    intro h1 w1 H1 J f1 s1 src
    refine ⟨fun i m σ' H' => m = xs.length - i ∧ i ≤ xs.length ∧ ∃ w' st', Fr w1 H1 w' noR H' ∧ SRep W w' H' σ' st' ∧ PostS W w H DD E (forL (fun x st => (Rs.of (tgD t x st) st).ob fun st' _ => xss F body st') (xs.drop i) st'), ⟨xs.length, by simp, Nat.zero_le _, w1, st1, Fr.refl _ _, s1, h1⟩, ?_⟩
    rintro i m σ' H' ⟨rfl, hi, w', st', f', s', h2⟩
    by_cases hlt : i < xs.length
    · refine .inr ⟨src.goes f' s'.sle hlt, fun σ4 H4 => ∃ w4 st4, Fr w1 H1 w4 noR H4 ∧ SRep W w4 H4 σ4 st4 ∧ PostS W w H DD E (forL (fun x st => (Rs.of (tgD t x st) st).ob fun st' _ => xss F body st') (xs.drop (i + 1)) st4), fun σ4 H4 q => ⟨xs.length - (i + 1), by omega, rfl, hlt, q⟩, fun x H3 y => ?_⟩
      have ed : xs.drop i = xs[i] :: xs.drop (i + 1) := List.drop_eq_getElem_cons hlt
      rw [ed] at h2
      obtain ⟨w3, f3, s3, q3⟩ := src.yields f' s' (List.getElem?_eq_getElem hlt) y
      have h3 : PostS W w H DD E (((Rs.of (tgD t xs[i] st') st').ob fun st' _ => xss F body st').bind fun st => forL (fun x st => (Rs.of (tgD t x st) st).ob fun st' _ => xss F body st') (xs.drop (i + 1)) st) := h2
      cases e : tgD t xs[i] st' with
      | none => rw [e] at h3; exact h3.elim
      | some st2 =>
        rw [e] at h3
        have h4 : PostS W w H DD E ((xss F body st2).bind fun st => forL (fun x st => (Rs.of (tgD t x st) st).ob fun st' _ => xss F body st') (xs.drop (i + 1)) st) := h3
        refine ⟨w3, noR, w3, H3, st', xs[i], st2, Fr.refl _ _, s3, Rp.of_sh (w := w3.wth noR) q3, e, fun w4 σ4 f4 s4 _ => ⟨w4, st2, s4, ?_⟩⟩
        have fa : Fr w1 H1 w4 noR H3 := ((f'.trans f3).trans f4).noR
        have fb : Fr w H w4 noR H3 := (f1.trans fa).noR
        cases eo : xss F body st2 with
        | nx st5 =>
          rw [eo] at h4
          exact fun w5 σ5 H5 f5 s5 => ⟨w5, st5, (fa.trans f5).noR, s5, h4⟩
        | rt d st5 => rw [eo] at h4; exact PostS.shift (o := .rt d st5) fb h4
        | ex x st5 => rw [eo] at h4; exact PostX.shift fb h4
        | bad => rw [eo] at h4; exact h4
    · have e : i = xs.length := by omega
      subst e
      rw [List.drop_length] at h2
      exact .inl ⟨src.stops f' s'.sle, h2 w' σ' H' (f1.trans f').noR s'⟩
/-- what is wanted of the walk of a row -/
def WkR (DD : Ends) (g : TG) (tb : TS) (σ : L2.St) : It → Hp → Prop := fun J H1 => ∃ W : Nat → Nat → L2.St → Hp → Prop, (∃ m, W 0 m σ H1) ∧ ∀ i m σ H, W i m σ H →
  (J.stop i H ∧ DD.nx σ H) ∨ (J.go i H ∧ ∃ N : L2.St → Hp → Prop, (∀ σ' H', N σ' H' → ∃ m', m' < m ∧ W (i + 1) m' σ' H') ∧ ∀ x H', J.yld i H x H' → g x σ H' fun σ2 H2 => tb { DD with nx := N, ct := N, bk := DD.nx } σ2 H2)
theorem for_core {t : Tg} {body : CSs} {xs : List D} {J : It} {st1 : Sg} (f1 : Fr w H w1 noR H1) (s1 : SRep W w1 H1 σ st1) (src : Src W w1 H1 xs J) (h1 : PostS W w H DD E (forL (fun x st => (Rs.of (tgD t x st) st).ob fun st' _ => xss F body st') xs st1)) :
    WkR DD (semG W t) (semSs W F E body) σ J H1 := by
  refine ⟨fun i m σ' H' => m = xs.length - i ∧ i ≤ xs.length ∧ ∃ w' st', Fr w1 H1 w' noR H' ∧ SRep W w' H' σ' st' ∧ PostS W w H DD E (forL (fun x st => (Rs.of (tgD t x st) st).ob fun st' _ => xss F body st') (xs.drop i) st'), ⟨xs.length, by simp, Nat.zero_le _, w1, st1, Fr.refl _ _, s1, h1⟩, ?_⟩
  rintro i m σ' H' ⟨rfl, hi, w', st', f', s', h2⟩
  by_cases hlt : i < xs.length
  · refine .inr ⟨src.goes f' s'.sle hlt, fun σ4 H4 => ∃ w4 st4, Fr w1 H1 w4 noR H4 ∧ SRep W w4 H4 σ4 st4 ∧ PostS W w H DD E (forL (fun x st => (Rs.of (tgD t x st) st).ob fun st' _ => xss F body st') (xs.drop (i + 1)) st4), fun σ4 H4 q => ⟨xs.length - (i + 1), by omega, rfl, hlt, q⟩, fun x H3 y => ?_⟩
    have ed : xs.drop i = xs[i] :: xs.drop (i + 1) := List.drop_eq_getElem_cons hlt
    rw [ed] at h2
    obtain ⟨w3, f3, s3, q3⟩ := src.yields f' s' (List.getElem?_eq_getElem hlt) y
    have h3 : PostS W w H DD E (((Rs.of (tgD t xs[i] st') st').ob fun st' _ => xss F body st').bind fun st => forL (fun x st => (Rs.of (tgD t x st) st).ob fun st' _ => xss F body st') (xs.drop (i + 1)) st) := h2
    cases e : tgD t xs[i] st' with
    | none => rw [e] at h3; exact h3.elim
    | some st2 =>
      rw [e] at h3
      have h4 : PostS W w H DD E ((xss F body st2).bind fun st => forL (fun x st => (Rs.of (tgD t x st) st).ob fun st' _ => xss F body st') (xs.drop (i + 1)) st) := h3
      refine ⟨w3, noR, w3, H3, st', xs[i], st2, Fr.refl _ _, s3, Rp.of_sh (w := w3.wth noR) q3, e, fun w4 σ4 f4 s4 _ => ⟨w4, st2, s4, ?_⟩⟩
      have fa : Fr w1 H1 w4 noR H3 := ((f'.trans f3).trans f4).noR
      have fb : Fr w H w4 noR H3 := (f1.trans fa).noR
      cases eo : xss F body st2 with
      | nx st5 =>
        rw [eo] at h4
        exact fun w5 σ5 H5 f5 s5 => ⟨w5, st5, (fa.trans f5).noR, s5, h4⟩
      | rt d st5 => rw [eo] at h4; exact PostS.shift (o := .rt d st5) fb h4
      | ex x st5 => rw [eo] at h4; exact PostX.shift fb h4
      | bad => rw [eo] at h4; exact h4
  · have e : i = xs.length := by omega
    subst e
    rw [List.drop_length] at h2
    exact .inl ⟨src.stops f' s'.sle, h2 w' σ' H' (f1.trans f').noR s'⟩
theorem rpL_len {r : Ix} {a : Addr} : ∀ {xs : List D} {j : Nat} {vs : List V}, RpL W w H r xs a j vs → xs.length = vs.length
  | [], _, _, h => by simp only [RpL] at h; subst h; rfl
  | x :: xs, j, vs, h => by
    simp only [RpL] at h
    obtain ⟨v, s, rfl, q, t⟩ := h
    simp [rpL_len t]
theorem rp_lst {K : PySem.W.Frag} {r : Ix} {o : Bool} {xs : List D} {p : Ps} {a : Addr} (s : SRep W w1 H1 σ st) (h : Rp W w1 H1 r (.node o .lst xs) p (.ref a)) :
    ∃ vs, SqL K H1 a vs ∧ vs.length = xs.length ∧ ∀ (i : Nat) (x : D), xs[i]? = some x → x.sh = true → ∃ v, vs[i]? = some v ∧ RpS W w1.S x v := by
  cases o with
  | false =>
    simp only [Rp] at h
    obtain ⟨b, vs, e, q, r⟩ := h
    cases e
    refine ⟨vs, q.list s.sle, r.len.symm, fun i x hx _ => r.get hx⟩
  | true =>
    simp only [Rp] at h
    obtain ⟨b, vs, ho, e, _, q, hm, rl⟩ := h
    cases e
    have e2 : ho = .lst vs := hm
    subst e2
    refine ⟨vs, .inl (.inl q), (rpL_len rl).symm, fun i x hx hs => ?_⟩
    clear q hm
    have key : ∀ (xs : List D) (j : Nat) (vs : List V) (i : Nat), RpL W w1 H1 r xs a j vs → xs[i]? = some x → ∃ v, vs[i]? = some v ∧ RpS W w1.S x v := by
      intro xs
      induction xs with
      | nil => intro j vs i _ h; simp at h
      | cons y ys ih =>
        intro j vs i h hx
        simp only [RpL] at h
        obtain ⟨v, s, rfl, q, t⟩ := h
        cases i with
        | zero => simp at hx; subst hx; exact ⟨v, by simp, Rp.sh hs q⟩
        | succ i =>
          obtain ⟨u, e1, q1⟩ := ih _ _ i t (by simpa using hx)
          exact ⟨u, by simpa using e1, q1⟩
    exact key xs 0 vs i rl hx
theorem forc_core {t : Tg} {body : CSs} {K : PySem.W.Frag} {n : Nat} {a : Addr} {k : Nat} {st1 : Sg} (f1 : Fr w H w1 noR H1) (s1 : SRep W w1 H1 σ st1) (ha : w1.io[n]? = some a) (h1 : PostS W w H DD E (forC (fun x st => (Rs.of (tgD t x st) st).ob fun st' _ => xss F body st') n k 0 st1)) :
    WkR DD (semG W t) (semSs W F E body) σ (Itl K a) H1 := by
  refine ⟨fun i m σ' H' => ∃ w' st', Fr w1 H1 w' noR H' ∧ SRep W w' H' σ' st' ∧ PostS W w H DD E (forC (fun x st => (Rs.of (tgD t x st) st).ob fun st' _ => xss F body st') n m i st'), ⟨k, w1, st1, Fr.refl _ _, s1, h1⟩, ?_⟩
  rintro i m σ' H' ⟨w', st', f', s', h2⟩
  cases m with
  | zero => exact h2.elim
  | succ m =>
    have h2' : PostS W w H DD E (match st'.m[n]? with
      | some (.node _ .lst xs) => (match xs[i]? with
        | none => .nx st'
        | some x => if x.sh then ((fun x st => (Rs.of (tgD t x st) st).ob fun st' _ => xss F body st') x st').bind fun st => forC (fun x st => (Rs.of (tgD t x st) st).ob fun st' _ => xss F body st') n m (i + 1) st else .bad)
      | _ => .bad) := h2
    clear h2
    split at h2'
    · rename_i o xs em
      obtain ⟨b, eb, qb⟩ := s'.cel n _ em
      have ea : w'.io[n]? = some a := f'.io n a ha
      rw [ea] at eb
      cases eb
      obtain ⟨vs, sq, hl, hg⟩ := rp_lst (K := K) s' qb
      split at h2'
      · rename_i e
        refine .inl ⟨⟨vs, sq, ?_⟩, h2' w' σ' H' (f1.trans f').noR s'⟩
        have := List.getElem?_eq_none_iff.mp e
        omega
      · rename_i x e
        split at h2'
        · rename_i hs
          obtain ⟨v, ev, qv⟩ := hg i x e hs
          refine .inr ⟨⟨vs, v, sq, ev⟩, fun σ4 H4 => ∃ w4 st4, Fr w1 H1 w4 noR H4 ∧ SRep W w4 H4 σ4 st4 ∧ PostS W w H DD E (forC (fun x st => (Rs.of (tgD t x st) st).ob fun st' _ => xss F body st') n m (i + 1) st4), fun σ4 H4 q => ⟨m, Nat.lt_succ_self m, q⟩, fun x2 H3 y => ?_⟩
          obtain ⟨rfl, y⟩ := y
          have := y vs sq
          rw [ev] at this
          cases this
          have h3 : PostS W w H DD E (((Rs.of (tgD t x st') st').ob fun st' _ => xss F body st').bind fun st => forC (fun x st => (Rs.of (tgD t x st) st).ob fun st' _ => xss F body st') n m (i + 1) st) := h2'
          cases e5 : tgD t x st' with
          | none => rw [e5] at h3; exact h3.elim
          | some st2 =>
            rw [e5] at h3
            have h4 : PostS W w H DD E ((xss F body st2).bind fun st => forC (fun x st => (Rs.of (tgD t x st) st).ob fun st' _ => xss F body st') n m (i + 1) st) := h3
            refine ⟨w', noR, w', H3, st', x, st2, Fr.refl _ _, s', Rp.of_sh (w := w'.wth noR) qv, e5, fun w4 σ4 f4 s4 _ => ⟨w4, st2, s4, ?_⟩⟩
            have fa : Fr w1 H1 w4 noR H3 := (f'.trans f4).noR
            have fb : Fr w H w4 noR H3 := (f1.trans fa).noR
            cases eo : xss F body st2 with
            | nx st5 =>
              rw [eo] at h4
              exact fun w5 σ5 H5 f5 s5 => ⟨w5, st5, (fa.trans f5).noR, s5, h4⟩
            | rt d st5 => rw [eo] at h4; exact PostS.shift (o := .rt d st5) fb h4
            | ex x st5 => rw [eo] at h4; exact PostX.shift fb h4
            | bad => rw [eo] at h4; exact h4
        · exact h2'.elim
    · exact h2'.elim
theorem s_forc {t : Tg} {e : CE} {body : CSs} {te ie : Expr} {sb : List Stmt} {p : Pos} (g : Gd W F c X E) (hcm : c.calm = true) (ht : chkTg c t te = true) (S : PE X ie (semE W F E e)) (Sb : PSs X sb (semSs W F E body)) (hs : isSet ie = false) :
    PS X (.For te ie sb [] p) (semS W F E (.forc t e body)) := by
  refine psW (ps_for g.po (g.calm hcm) (pi_any S) (tg_snd g t ht) Sb (fold_no hs)) fun DD σ H h => ?_
  obtain ⟨w, st, s, h⟩ := h
  have h' : PostS W w H DD E ((ev F e st).ob fun d st => wlk (fun x st => (Rs.of (tgD t x st) st).ob fun st' _ => xss F body st') d st) := h
  show iAny X.K (semE W F E e) σ H (WkR DD (semG W t) (semSs W F E body) σ)
  refine evRead (Fr.refl w H) s (PostR.ofS h') fun v H1 w1 R1 d st1 f1 s1 hv h2 => ?_
  have h2' : PostS W w H DD E (wlk (fun x st => (Rs.of (tgD t x st) st).ob fun st' _ => xss F body st') d st1) := h2
  obtain ⟨f2, s2⟩ := frzA_snd f1 s1
  have key : ∀ {d}, (∀ n, d ≠ .cell n) → PostS W w H DD E (wlk (fun x st => (Rs.of (tgD t x st) st).ob fun st' _ => xss F body st') d st1) → ∃ xs, rowD d = some xs ∧ PostS W w H DD E (forL (fun x st => (Rs.of (tgD t x st) st).ob fun st' _ => xss F body st') xs st1) := by
    intro d hd h
    have h3 : PostS W w H DD E ((Rs.of (rowD d) st1).ob fun l st => forL (fun x st => (Rs.of (tgD t x st) st).ob fun st' _ => xss F body st') l st) := by
      cases d with
      | cell n => exact absurd rfl (hd n)
      | _ => exact h
    cases er : rowD d with
    | none => rw [er] at h3; exact h3.elim
    | some xs => rw [er] at h3; exact ⟨xs, rfl, h3⟩
  cases d with
  | cell n =>
    have h3 : PostS W w H DD E (match st1.m[n]? with
      | some (.node _ .lst xs) => forC (fun x st => (Rs.of (tgD t x st) st).ob fun st' _ => xss F body st') n (xs.length + 1) 0 st1
      | _ => .bad) := h2'
    split at h3
    · rename_i o xs em
      obtain ⟨b, eb, qb⟩ := s1.cel n _ em
      obtain ⟨vs, sq, _, _⟩ := rp_lst (K := X.K) s1 qb
      have hv' : v = .ref b := by
        simp only [Rp] at hv
        obtain ⟨a, e1, e2⟩ := hv
        have e3 : w1.io[n]? = some a := e1
        rw [eb] at e3
        cases e3
        exact e2
      exact .inl ⟨b, hv', ⟨vs, sq⟩, forc_core f1.noR s1 eb h3⟩
    · exact h3.elim
  | str l =>
    obtain ⟨xs, e, h3⟩ := key (by simp) h2'
    cases e
    have : v = .str (cps l) := by simpa only [Rp] using hv
    subst this
    exact .inr (.inr ⟨_, rfl, for_core f2 s2 src_str h3⟩)
  | node o k ys =>
    obtain ⟨xs, e, h3⟩ := key (by simp) h2'
    cases k with
    | lst =>
      obtain ⟨e1, e2, e3⟩ := stay_eq e
      obtain ⟨b, vs, rfl, q1, q2⟩ := (frzA_rp f1 (d := .node o .lst ys) (by simpa [D.nc] using e2) hv).node
      rw [← e1] at q2
      exact .inl ⟨b, rfl, ⟨vs, q1.list s2.sle⟩, for_core f2 s2 (src_list (.inl q1) q2) h3⟩
    | tup =>
      obtain ⟨e1, e2, e3⟩ := stay_eq e
      obtain ⟨b, vs, rfl, q1, q2⟩ := (frzA_rp f1 (d := .node o .tup ys) (by simpa [D.nc] using e2) hv).node
      rw [← e1] at q2
      exact .inr (.inl ⟨b, rfl, ⟨vs, q1.tup s2.sle⟩, for_core f2 s2 (src_tup q1 q2) h3⟩)
    | slst =>
      have e' : (if D.shL ys then some ys else none) = some xs := e
      split at e'
      · rename_i hs
        cases e'
        obtain ⟨e4, e5⟩ := shL_frz hs
        obtain ⟨b, vs, rfl, q1, q2⟩ := (frzA_rp f1 (d := .node o .slst ys) (by simpa [D.nc] using e5) hv).node
        rw [e4] at q2
        exact .inl ⟨b, rfl, ⟨vs, q1.slist s2.sle⟩, for_core f2 s2 (src_list (.inr q1) q2) h3⟩
      · cases e'
    | _ => cases e
  | _ => 
    obtain ⟨xs, e, h3⟩ := key (by simp) h2'
    cases e
theorem s_whl {e : CE} {body : CSs} {n : Nat} {ee : Expr} {sb : List Stmt} {p : Pos} (g : Gd W F c X E) (S : PT X ee (semT W F E e)) (Sb : PSs X sb (semSs W F E body)) : PS X (.While ee sb [] p) (semS W F E (.whl e body n)) := by
  refine psW (ps_while g.po S Sb) fun DD σ H h => ?_
  obtain ⟨w, st, s, h⟩ := h
  refine ⟨fun m σ' H' => ∃ w' st', Fr w H w' noR H' ∧ SRep W w' H' σ' st' ∧ PostS W w H DD E (whlL (tst F e) (xss F body) m st'), ⟨n, w, st, Fr.refl _ _, s, h⟩, ?_⟩
  rintro m σ' H' ⟨w', st', f', s', h2⟩
  cases m with
  | zero => exact h2.elim
  | succ m =>
    have h3 : PostS W w H DD E ((tst F e st').ob fun t st => if t then (xss F body st).bind fun st => whlL (tst F e) (xss F body) m st else .nx st) := h2
    refine tsRead f' s' (PostR.ofS h3) fun k H2 w2 st2 f2 s2 h4 => ?_
    cases k with
    | true =>
      rw [if_pos rfl]
      refine ⟨fun σ4 H4 => ∃ w4 st4, Fr w H w4 noR H4 ∧ SRep W w4 H4 σ4 st4 ∧ PostS W w H DD E (whlL (tst F e) (xss F body) m st4), fun σ4 H4 q => ⟨m, Nat.lt_succ_self m, q⟩, w2, st2, s2, ?_⟩
      exact PostS.seq h4 (f'.trans f2).noR (fun w4 σ4 H4 st4 f4 s4 q => ⟨w4, st4, f4, s4, q⟩) _ _
    | false => rw [if_neg Bool.false_ne_true]; exact h4 w2 σ' H2 (f'.trans f2).noR s2
end
end VS
/-! VS22: a thing that is held alone is changed. -/
namespace VS
open PySem PySem.Spec L2
open PyProof.Rows hiding St
section
variable {W : Wd} {F : Cl} {c : Ck} {X : Cx} {E : L2.WX} {w w1 w2 w0 : Wh} {H H1 H2 H0 : Hp} {R Ra Rb R1 : Own} {σ : L2.St} {st st' : Sg} {Q : VK} {DD : Ends}
/-- the frame when what stands at a root is changed -/
theorem put_root {r : Ix} {pa : Ps} {a : Addr} {o' : HO} {own' : Own} (fr : Fr w0 H0 w R1 H) (s : SRep W w H σ st) (ha : w.own a = some (r, pa))
    (c1 : ∀ b q p, q ≠ r → w.own b = some (q, p) → own' b = some (q, p)) (c2 : ∀ b, own' b ≠ none → w.own b ≠ none ∨ R1 b ≠ none) (hk : ktO o' = false) :
    Fr w0 H0 ⟨w.S, own', w.io⟩ noR (upd H a o') ∧ (∀ b u, w.S b = some u → RdX (upd H a o') b u) ∧ (∀ b t, own' b = some t → w.S b = none ∧ Lv (upd H a o') b) ∧ ∀ q, q ≠ r → Kp w ⟨w.S, own', w.io⟩ H (upd H a o') q q := by
  have hS := s.sno a _ ha
  have nz : ∀ b, Lv H b → Lv (upd H a o') b := fun b h => by
    by_cases z : b = a
    · subst z; exact Lv.of upd_same hk
    · obtain ⟨u, e, q⟩ := h
      exact ⟨u, by rw [upd_ne z]; exact e, q⟩
  refine ⟨⟨fr.S, fr.io, fun x hx => ?_, fun _ h => absurd rfl h, fr.Sd, fun x u n h => ?_, fun _ h => absurd rfl h⟩, fun b u h => ?_, fun b t h => ?_, fun q hq => ⟨SLe.refl _, fun _ _ h => h, fun b p h => c1 b q p hq h, fun b p u h e => ?_⟩⟩
  · rcases c2 x hx with q | q
    · exact fr.dom x q
    · exact fr.domR x q
  · have z : x ≠ a := fun z => by
      subst z
      rcases fr.dom x (by rw [ha]; simp) with q | q
      · exact q n
      · rw [h] at q; cases q
    rw [upd_ne z]; exact fr.keep x u n h
  · have z : b ≠ a := fun z => by subst z; rw [hS.1] at h; cases h
    have hr := s.sle b u h
    unfold RdX Rd at hr ⊢
    rw [upd_ne z]; exact hr
  · rcases c2 b (by rw [h]; simp) with q | q
    · cases e : w.own b with
      | none => exact absurd e q
      | some t2 => exact ⟨(s.sno b t2 e).1, nz b (s.sno b t2 e).2⟩
    · exact ⟨(fr.R b q).2.1, nz b (fr.R b q).2.2⟩
  · have z : b ≠ a := fun z => by
      subst z; rw [ha] at h; cases h; exact hq rfl
    rw [upd_ne z]; exact e
/-- what stands under a name is changed -/
theorem putN_snd {i : Nat} {x : D} {k : Kn} {xs : List D} (s : SRep W w H σ st) (hx : (st.sl[i]?).join = some x) (hd : drf st.m x = .node true k xs) :
    ∃ r a vs o, σ[i]? = some (some (.ref a)) ∧ w.own a = some (r, none) ∧ H a = some o ∧ HOm W vs k o ∧ RpL W w H r xs a 0 vs ∧
      ∀ {w0 H0 R1 k' xs' vs' o' own' st'}, Fr w0 H0 w R1 H → (∀ b q p, q ≠ r → w.own b = some (q, p) → own' b = some (q, p)) → (∀ b, own' b ≠ none → w.own b ≠ none ∨ R1 b ≠ none) → own' a = some (r, none) →
        HOm W vs' k' o' → ktO o' = false → RpL W ⟨w.S, own', w.io⟩ (upd H a o') r xs' a 0 vs' → putN i (.node true k' xs') st = some st' → ∃ w', Fr w0 H0 w' noR (upd H a o') ∧ SRep W w' (upd H a o') σ st' ∧ w'.S = w.S := by
  have hs := slot_some hx
  obtain ⟨v, e, q⟩ := s.slo i x hs
  have new : ∀ {r : Ix} {a : Addr} {k' : Kn} {xs' : List D} {vs' : List V} {o' : HO} {own' : Own}, own' a = some (r, none) → HOm W vs' k' o' → RpL W ⟨w.S, own', w.io⟩ (upd H a o') r xs' a 0 vs' → Rp W ⟨w.S, own', w.io⟩ (upd H a o') r (.node true k' xs') none (.ref a) := by
    intro r a k' xs' vs' o' own' h1 h2 h3
    simp only [Rp]
    exact ⟨a, vs', o', rfl, h1, upd_same, h2, h3⟩
  cases x with
  | cell n =>
    have hm : st.m[n]? = some (.node true k xs) := by
      have hd' : (st.m[n]?).getD (.cell n) = .node true k xs := hd
      cases em : st.m[n]? with
      | none => rw [em] at hd'; cases hd'
      | some y => rw [em] at hd'; exact congrArg some hd'
    obtain ⟨a, ea, qa⟩ := s.cel n _ hm
    have qv : v = .ref a := by
      simp only [Rp] at q
      obtain ⟨b, eb, rfl⟩ := q
      rw [ea] at eb; cases eb; rfl
    subst qv
    simp only [Rp] at qa
    obtain ⟨b, vs, o, eb, ha, hH, hO, hL⟩ := qa
    cases eb
    refine ⟨.cell n, a, vs, o, e, ha, hH, hO, hL, ?_⟩
    intro w0 H0 R1 k' xs' vs' o' own' st' fr c1 c2 c3 hO' hkt hL' hp
    obtain ⟨f, a1, a2, a3⟩ := put_root (o' := o') fr s ha c1 c2 hkt
    unfold putN at hp
    rw [hx] at hp
    simp only at hp
    split at hp
    · cases hp
      refine ⟨_, f, ⟨a1, a2, by simpa using s.iol, fun j d hj => ?_, fun j d hj => ?_, s.len⟩, rfl⟩
      · have hj' : (st.m.set n (.node true k' xs'))[j]? = some d := hj
        by_cases z : n = j
        · subst z
          rw [List.getElem?_set_self (by assumption)] at hj'
          cases hj'
          exact ⟨a, ea, new c3 hO' hL'⟩
        · rw [List.getElem?_set_ne z] at hj'
          obtain ⟨b, eb, qb⟩ := s.cel j d hj'
          exact ⟨b, eb, Rp.mono (a3 (.cell j) (fun zz => z (by injection zz with zz; exact zz.symm))) qb⟩
      · obtain ⟨u, eu, qu⟩ := s.slo j d hj
        exact ⟨u, eu, Rp.mono (a3 (.slot j) (fun zz => by cases zz)) qu⟩
    · cases hp
  | node b k2 xs2 =>
    cases hd
    simp only [Rp] at q
    obtain ⟨a, vs, o, rfl, ha, hH, hO, hL⟩ := q
    refine ⟨.slot i, a, vs, o, e, ha, hH, hO, hL, ?_⟩
    intro w0 H0 R1 k' xs' vs' o' own' st' fr c1 c2 c3 hO' hkt hL' hp
    obtain ⟨f, a1, a2, a3⟩ := put_root (o' := o') fr s ha c1 c2 hkt
    unfold putN at hp
    rw [hx] at hp
    simp only [Option.some.injEq] at hp
    subst hp
    refine ⟨_, f, ⟨a1, a2, s.iol, fun j d hj => ?_, fun j d hj => ?_, by simpa using s.len⟩, rfl⟩
    · obtain ⟨u, eu, qu⟩ := s.cel j d hj
      exact ⟨u, eu, Rp.mono (a3 (.cell j) (fun zz => by cases zz)) qu⟩
    · rcases set_get hj with ⟨z, e2⟩ | ⟨z, e2⟩
      · subst z
        cases e2
        exact ⟨.ref a, e, new c3 hO' hL'⟩
      · obtain ⟨u, eu, qu⟩ := s.slo j d e2
        exact ⟨u, eu, Rp.mono (a3 (.slot j) (fun zz => z (by injection zz with zz; exact zz.symm))) qu⟩
  | _ => cases hd
/-- held things come in at the j-th place -/
def addR (r : Ix) (a : Addr) (j : Nat) (R1 o : Own) : Own := fun x => match o x with
  | some t => some t
  | none => match R1 x with
    | some (_, none) => some (r, some (a, j))
    | some (_, some p) => some (r, some p)
    | none => none
theorem addR_o {r : Ix} {a : Addr} {j : Nat} {R1 o : Own} {x : Addr} {t : Ix × Ps} (h : o x = some t) : addR r a j R1 o x = some t := by unfold addR; rw [h]
theorem addR_ne {r : Ix} {a : Addr} {j : Nat} {R1 o : Own} {x : Addr} (h : addR r a j R1 o x ≠ none) : o x ≠ none ∨ R1 x ≠ none := by
  unfold addR at h
  cases e : o x with
  | some t => exact .inl (by simp)
  | none =>
    rw [e] at h
    cases e2 : R1 x with
    | some t => exact .inr (by simp)
    | none => rw [e2] at h; exact absurd rfl h
/-- the children that were there -/
theorem old_child {r : Ix} {a : Addr} {o' : HO} {own' : Own} {xs : List D} {j : Nat} {vs : List V} (ha : w.own a = some (r, none)) (c : ∀ b p, w.own b = some (r, some p) → own' b = some (r, some p)) (h : RpL W w H r xs a j vs) :
    RpL W ⟨w.S, own', w.io⟩ (upd H a o') r xs a j vs := by
  refine RpL.mv (w := w) (w' := ⟨w.S, own', w.io⟩) ⟨SLe.refl _, fun _ _ h => h, c, fun b p u hb e => ?_⟩ h
  rw [upd_ne (fun z => by subst z; rw [ha] at hb; cases hb)]; exact e
/-- the one that comes in -/
theorem new_child {r : Ix} {pa : Ps} {a : Addr} {j : Nat} {o' : HO} {d : D} {v : V} (fr : Fr w0 H0 w R1 H) (ha : w.own a = some (r, pa)) (h : Rp W (w.wth R1) H (.temp 0) d none v) :
    Rp W ⟨w.S, addR r a j R1 w.own, w.io⟩ (upd H a o') r d (some (a, j)) v := by
  have na : ∀ b t, R1 b = some t → b ≠ a := fun b t h z => by
    subst z
    have := (fr.R b (by rw [h]; simp)).1
    rw [ha] at this; cases this
  have no : ∀ b t, R1 b = some t → w.own b = none := fun b t h => (fr.R b (by rw [h]; simp)).1
  refine Rp.child (w := w.wth R1) (w' := ⟨w.S, addR r a j R1 w.own, w.io⟩) (r := .temp 0) (q := (a, j)) ⟨SLe.refl _, fun _ _ h => h, fun b p hb => ?_, fun b p u hb e => ?_⟩ (fun b hb => ?_) (fun b u hb e => ?_) h
  · have hb' : R1 b = some (.temp 0, some p) := hb
    show addR r a j R1 w.own b = _
    unfold addR; rw [no b _ hb', hb']
  · rw [upd_ne (na b _ hb)]; exact e
  · have hb' : R1 b = some (.temp 0, none) := hb
    show addR r a j R1 w.own b = _
    unfold addR; rw [no b _ hb', hb']
  · rw [upd_ne (na b _ hb)]; exact e
theorem RpL.snoc {r : Ix} {a : Addr} {d : D} {u : V} : ∀ {xs : List D} {j : Nat} {vs : List V}, RpL W w H r xs a j vs → Rp W w H r d (some (a, j + xs.length)) u → RpL W w H r (xs ++ [d]) a j (vs ++ [u])
  | [], j, vs, h, k => by
    simp only [RpL] at h
    subst h
    simp only [List.nil_append, RpL]
    exact ⟨u, [], rfl, by simpa using k, rfl⟩
  | x :: xs, j, vs, h, k => by
    simp only [RpL] at h
    obtain ⟨v, s, rfl, q, t⟩ := h
    simp only [List.cons_append, RpL]
    exact ⟨v, s ++ [u], rfl, q, RpL.snoc t (by rw [show j + 1 + xs.length = j + (x :: xs).length by simp; omega]; exact k)⟩
theorem RpL.set {r : Ix} {a : Addr} {d : D} {u : V} : ∀ {xs : List D} {j i : Nat} {vs : List V}, RpL W w H r xs a j vs → Rp W w H r d (some (a, j + i)) u → RpL W w H r (xs.set i d) a j (vs.set i u)
  | [], j, i, vs, h, k => by simpa [RpL] using h
  | x :: xs, j, 0, vs, h, k => by
    simp only [RpL] at h
    obtain ⟨v, s, rfl, q, t⟩ := h
    simp only [List.set_cons_zero, RpL]
    exact ⟨u, s, rfl, by simpa using k, t⟩
  | x :: xs, j, i + 1, vs, h, k => by
    simp only [RpL] at h
    obtain ⟨v, s, rfl, q, t⟩ := h
    simp only [List.set_cons_succ, RpL]
    exact ⟨v, s.set i u, rfl, q, RpL.set t (by rw [show j + 1 + i = j + (i + 1) by omega]; exact k)⟩
theorem RpL.len {r : Ix} {a : Addr} : ∀ {xs : List D} {j : Nat} {vs : List V}, RpL W w H r xs a j vs → xs.length = vs.length
  | [], _, _, h => by simp only [RpL] at h; subst h; rfl
  | x :: xs, j, vs, h => by
    simp only [RpL] at h
    obtain ⟨v, s, rfl, q, t⟩ := h
    simp [RpL.len t]
theorem RpL.shS {r : Ix} {a : Addr} : ∀ {xs : List D} {j : Nat} {vs : List V}, D.shL xs = true → RpL W w H r xs a j vs → RpSL W w.S xs vs
  | [], _, _, _, h => by simpa only [RpL, RpSL] using h
  | x :: xs, j, vs, e, h => by
    simp only [RpL] at h
    obtain ⟨v, s, e1, q, t⟩ := h
    simp only [D.shL, Bool.and_eq_true] at e
    simp only [RpSL]
    exact ⟨v, s, e1, Rp.sh e.1 q, RpL.shS e.2 t⟩
/-- keys and things, one put in -/
def putV {κ : Type} [DecidableEq κ] (k : κ) (v : V) : List κ → List V → List V
  | j :: js, x :: xs => if j = k then v :: xs else x :: putV k v js xs
  | _, _ => [v]
theorem putK_zip {κ κ' : Type} [DecidableEq κ] [DecidableEq κ'] (u : κ → κ') (inj : ∀ a b, u a = u b → a = b) (k : κ) (d : D) (v : V) : ∀ {ks : List κ} {xs : List D} {vs : List V}, ks.length = vs.length → ks.length = xs.length → ks.Nodup →
    L2.putK (zipK (ks.map u) vs) (u k) v = zipK ((putK k d ks xs).1.map u) (putV k v ks vs) ∧ (putK k d ks xs).1.length = (putV k v ks vs).length ∧ (putK k d ks xs).1.Nodup ∧ ∀ j, j ∈ (putK k d ks xs).1 → j = k ∨ j ∈ ks
  | [], xs, vs, h1, h2, _ => by
    have : vs = [] := by cases vs with | nil => rfl | cons => simp at h1
    subst this
    refine ⟨by simp [L2.putK, zipK, putK, putV], by simp [putK, putV], by simp [putK], fun j hj => .inl (by simpa [putK] using hj)⟩
  | j :: js, [], _, _, h2, _ => by simp at h2
  | j :: js, _ :: _, [], h1, _, _ => by simp at h1
  | j :: js, x :: xs, y :: ys, h1, h2, hn => by
    simp only [List.nodup_cons] at hn
    have ih := putK_zip u inj k d v (ks := js) (xs := xs) (vs := ys) (by simpa using h1) (by simpa using h2) hn.2
    by_cases e : j = k
    · subst e
      simp only [putK, putV, if_true, List.map_cons, zipK]
      refine ⟨?_, by simpa using h1, by simp [hn], fun i hi => .inr hi⟩
      have nz : ∀ (l : List κ) (m : List V), j ∉ l → (zipK (l.map u) m).map (fun kv => if kv.1 = u j then (kv.1, v) else kv) = zipK (l.map u) m := by
        intro l
        induction l with
        | nil => intro m _; rfl
        | cons b l ih =>
          intro m hb
          cases m with
          | nil => rfl
          | cons z m =>
            simp only [List.mem_cons, not_or] at hb
            simp only [List.map_cons, zipK]
            rw [if_neg (fun q => hb.1 (inj _ _ q).symm), ih m hb.2]
      unfold L2.putK
      simp only [List.any_cons, decide_true, Bool.true_or, if_true, List.map_cons]
      rw [nz js ys hn.1]
    · simp only [putK, putV, if_neg e, List.map_cons, zipK]
      refine ⟨?_, by simp [ih.2.1], ?_, fun i hi => ?_⟩
      · have e' : ¬ u j = u k := fun q => e (inj _ _ q)
        have h3 := ih.1
        unfold L2.putK at h3 ⊢
        simp only [List.any_cons, e', decide_false, Bool.false_or, List.map_cons, if_false, List.cons_append]
        split
        · rename_i q; rw [if_pos q] at h3; rw [h3]
        · rename_i q; rw [if_neg q] at h3; rw [h3]
      · simp only [List.nodup_cons]
        exact ⟨fun q => (ih.2.2.2 j q).elim (fun z => e z) hn.1, ih.2.2.1⟩
      · simp only [List.mem_cons] at hi ⊢
        rcases hi with rfl | hi
        · exact .inr (.inl rfl)
        · rcases ih.2.2.2 i hi with z | z
          · exact .inl z
          · exact .inr (.inr z)
/-- its place -/
def atK {κ : Type} [DecidableEq κ] (k : κ) : List κ → Nat
  | [] => 0
  | j :: js => if j = k then 0 else atK k js + 1
theorem RpL.putK {κ : Type} [DecidableEq κ] {r : Ix} {a : Addr} {d : D} {u : V} (k : κ) : ∀ {ks : List κ} {xs : List D} {j : Nat} {vs : List V}, ks.length = xs.length → RpL W w H r xs a j vs → Rp W w H r d (some (a, j + atK k ks)) u → RpL W w H r (VS.putK k d ks xs).2 a j (putV k u ks vs)
  | [], xs, j, vs, h, hl, hd => by
    have : xs = [] := by cases xs with | nil => rfl | cons => simp at h
    subst this
    simp only [VS.putK, putV, RpL]
    exact ⟨u, [], rfl, by simpa [atK] using hd, rfl⟩
  | b :: ks, [], _, _, h, _, _ => by simp at h
  | b :: ks, x :: xs, j, vs, h, hl, hd => by
    simp only [RpL] at hl
    obtain ⟨v, s, rfl, q, t⟩ := hl
    by_cases e : b = k
    · simp only [VS.putK, putV, if_pos e, RpL]
      exact ⟨u, s, rfl, by simpa [atK, e] using hd, t⟩
    · simp only [VS.putK, putV, if_neg e, RpL]
      refine ⟨v, _, rfl, q, RpL.putK k (by simpa using h) t ?_⟩
      rw [show j + 1 + atK k ks = j + atK k (b :: ks) by simp [atK, e]; omega]; exact hd
end
end VS
/-! VS23: methods that change a list; stores at places and fields. -/
namespace VS
open PySem PySem.Spec L2
open PyProof.Rows hiding St
section
variable {W : Wd} {F : Cl} {c : Ck} {X : Cx} {E : L2.WX} {w w1 w2 w0 : Wh} {H H1 H2 H0 : Hp} {R Ra Rb R1 : Own} {σ : L2.St} {st st' : Sg} {Q : VK} {DD : Ends}
theorem RpSL.dropLast {S : Hp} : ∀ {xs : List D} {vs : List V}, RpSL W S xs vs → RpSL W S xs.dropLast vs.dropLast
  | [], _, h => by simp only [RpSL] at h; subst h; simp [RpSL]
  | [x], vs, h => by
    simp only [RpSL] at h
    obtain ⟨v, s, rfl, q, rfl⟩ := h
    simp [RpSL]
  | x :: y :: r, vs, h => by
    have h0 := h
    rw [RpSL] at h
    obtain ⟨v, s, rfl, q, t⟩ := h
    have t0 := t
    rw [RpSL] at t0
    obtain ⟨v2, s2, rfl, q2, t2⟩ := t0
    have ih := RpSL.dropLast t
    simp only [List.dropLast_cons₂, RpSL]
    exact ⟨v, _, rfl, q, ih⟩
theorem RpSL.erase {S : Hp} : ∀ {xs : List D} {vs : List V} (i : Nat), RpSL W S xs vs → RpSL W S (xs.eraseIdx i) (vs.eraseIdx i)
  | [], _, i, h => by simp only [RpSL] at h; subst h; simp [RpSL]
  | x :: r, vs, 0, h => by
    simp only [RpSL] at h
    obtain ⟨v, s, rfl, q, t⟩ := h
    exact t
  | x :: r, vs, i + 1, h => by
    simp only [RpSL] at h
    obtain ⟨v, s, rfl, q, t⟩ := h
    simp only [List.eraseIdx_cons_succ, RpSL]
    exact ⟨v, _, rfl, q, RpSL.erase i t⟩
theorem RpSL.rev {S : Hp} : ∀ {xs : List D} {vs : List V}, RpSL W S xs vs → RpSL W S xs.reverse vs.reverse
  | [], _, h => by simp only [RpSL] at h; subst h; simp [RpSL]
  | x :: r, vs, h => by
    simp only [RpSL] at h
    obtain ⟨v, s, rfl, q, t⟩ := h
    rw [List.reverse_cons, List.reverse_cons]
    exact RpSL.append (RpSL.rev t) (by simp only [RpSL]; exact ⟨v, [], rfl, q, rfl⟩)
theorem RpL.append {r : Ix} {a : Addr} {ys : List D} {us : List V} : ∀ {xs : List D} {j : Nat} {vs : List V}, RpL W w H r xs a j vs → RpL W w H r ys a (j + xs.length) us → RpL W w H r (xs ++ ys) a j (vs ++ us)
  | [], j, vs, h, k => by
    simp only [RpL] at h
    subst h
    simpa using k
  | x :: xs, j, vs, h, k => by
    simp only [RpL] at h
    obtain ⟨v, s, rfl, q, t⟩ := h
    simp only [List.cons_append, RpL]
    exact ⟨v, s ++ us, rfl, q, RpL.append t (by rw [show j + 1 + xs.length = j + (x :: xs).length by simp; omega]; exact k)⟩
theorem RpT.one {w : Wh} {H : Hp} {d : D} {vs : List V} (h : RpT W w H 0 [d] vs) : ∃ v, vs = [v] ∧ Rp W w H (.temp 0) d none v := by
  simp only [RpT] at h
  obtain ⟨v, s, rfl, q, rfl⟩ := h
  exact ⟨v, rfl, q⟩
/-- a list's method, by its name -/
def mtN : Mut → Option (String × String)
  | .append => some ("append", "list.append")
  | .extend => some ("extend", "list.extend")
  | .pop0 => some ("pop", "list.pop")
  | .pop1 => some ("pop", "list.pop")
  | .clear => some ("clear", "list.clear")
  | .reverse => some ("reverse", "list.reverse")
  | .insert => none
def MutOk (W : Wd) (E : L2.WX) (X : Cx) (b : Mut) (r : V → List V → Hp → VK → Prop) : Prop :=
  ∀ {w w2 : Wh} {H H2 : Hp} {Rb : Own} {σ : L2.St} {st2 st3 : Sg} {i : Nat} {x y ret : D} {ds : List D} {vs : List V} {Q : VK}, Fr w H w2 Rb H2 → SRep W w2 H2 σ st2 → (st2.sl[i]?).join = some x → mutD b (drf st2.m x) ds = some (y, ret) → RpT W (w2.wth Rb) H2 0 ds vs →
    putN i y st2 = some st3 → PostE W w H σ Q E (.ok ret st3) → ∃ a, σ[i]? = some (some (.ref a)) ∧ r (.ref a) vs H2 Q
theorem mut_inv {b : Mut} {d : D} {ds : List D} {y ret : D} (h : mutD b d ds = some (y, ret)) : ∃ xs, d = .node true .lst xs := by
  cases d with
  | node o k xs =>
    cases o with
    | false => cases b <;> simp [mutD] at h
    | true => cases k <;> first | exact ⟨xs, rfl⟩ | (cases b <;> simp [mutD] at h)
  | _ => cases b <;> simp [mutD] at h
theorem mut_snd (b : Mut) {nm id : String} (hb : mtN b = some (nm, id)) : ∃ r, MtR X id r ∧ Slot "list" nm id ∧ typeOf (.builtin id) = pure (.type "method_descriptor") ∧ MutOk W E X b r := by
  cases b with
  | append =>
    simp only [mtN, Option.some.injEq, Prod.mk.injEq] at hb; obtain ⟨rfl, rfl⟩ := hb
    refine ⟨_, mt_append, PySem.F.slot_list_append, PySem.F.type_list_append, ?_⟩
    intro w w2 H H2 Rb σ st2 st3 i x y ret ds vs Q f s hx e hv hp h
    obtain ⟨xs, ed⟩ := mut_inv e
    rw [ed] at e
    obtain ⟨r, a, us, o, es, ha, hH, hO, hL, put⟩ := putN_snd s hx ed
    match ds, e with
    | [d], e =>
      simp only [mutD] at e
      split at e
      · rename_i hl
        cases e
        obtain ⟨v, rfl, qv⟩ := hv.one
        have hO' : o = .lst us := hO
        subst hO'
        obtain ⟨w3, f3, s3, eS⟩ := put (k' := .lst) (o' := .lst (us ++ [v])) (own' := addR r a xs.length Rb w2.own) (vs' := us ++ [v]) f (fun b q p _ hb => addR_o hb) (fun b hb => addR_ne hb) (addR_o ha) rfl rfl
          ((old_child ha (fun b p hb => addR_o hb) hL).snoc (by rw [Nat.zero_add]; exact new_child f ha qv)) hp
        refine ⟨a, es, a, us, v, rfl, rfl, hH, by rw [← hL.len, ← LN_eq]; exact hl, ?_⟩
        exact h w3 noR _ .non f3 s3 (by simp only [Rp])
      · cases e
    | [], e => simp [mutD] at e
    | _ :: _ :: _, e => simp [mutD] at e
  | extend =>
    simp only [mtN, Option.some.injEq, Prod.mk.injEq] at hb; obtain ⟨rfl, rfl⟩ := hb
    refine ⟨_, mt_extend, PySem.F.slot_list_extend, PySem.F.type_list_extend, ?_⟩
    intro w w2 H H2 Rb σ st2 st3 i x y ret ds vs Q f s hx e hv hp h
    obtain ⟨xs, ed⟩ := mut_inv e
    rw [ed] at e
    obtain ⟨r, a, us, o, es, ha, hH, hO, hL, put⟩ := putN_snd s hx ed
    match ds, e with
    | [.node o2 .lst ys], e =>
      simp only [mutD] at e
      split at e
      · rename_i hl
        cases e
        obtain ⟨v, rfl, qv⟩ := hv.one
        have hO' : o = .lst us := hO
        subst hO'
        obtain ⟨b, zs, rfl, rb, lb⟩ := (RpA.held (R := Rb) qv).node s.sle
        have hys := lb.sh hl.1
        obtain ⟨w3, f3, s3, eS⟩ := put (k' := .lst) (o' := .lst (us ++ zs)) (own' := w2.own) (vs' := us ++ zs) f (fun b q p _ hb => hb) (fun b hb => .inl hb) ha rfl rfl
          ((old_child ha (fun b p hb => hb) hL).append (RpL.ofS (w := ⟨w2.S, w2.own, w2.io⟩) hys)) hp
        refine ⟨a, es, a, b, us, zs, rfl, rfl, hH, rb.list', by rw [← hL.len, ← lb.len, ← LN_eq]; exact hl.2, ?_⟩
        exact h w3 noR _ .non f3 s3 (by simp only [Rp])
      · cases e
  | pop0 =>
    simp only [mtN, Option.some.injEq, Prod.mk.injEq] at hb; obtain ⟨rfl, rfl⟩ := hb
    refine ⟨_, mt_pop, PySem.F.slot_list_pop, PySem.F.type_list_pop, ?_⟩
    intro w w2 H H2 Rb σ st2 st3 i x y ret ds vs Q f s hx e hv hp h
    obtain ⟨xs, ed⟩ := mut_inv e
    rw [ed] at e
    obtain ⟨r, a, us, o, es, ha, hH, hO, hL, put⟩ := putN_snd s hx ed
    match ds, e with
    | [], e =>
      simp only [mutD] at e
      split at e
      · rename_i hl
        cases el : xs.getLast? with
        | none => rw [el] at e; cases e
        | some d =>
          rw [el] at e
          cases e
          have hv' : vs = [] := by simpa only [RpT] using hv
          subst hv'
          have hO' : o = .lst us := hO
          subst hO'
          have hxs := hL.shS hl
          obtain ⟨w3, f3, s3, eS⟩ := put (k' := .lst) (o' := .lst us.dropLast) (own' := w2.own) (vs' := us.dropLast) f (fun b q p _ hb => hb) (fun b hb => .inl hb) ha rfl rfl (RpL.ofS (w := ⟨w2.S, w2.own, w2.io⟩) hxs.dropLast) hp
          rw [List.getLast?_eq_getElem?] at el
          obtain ⟨v, e1, q1⟩ := hxs.get el
          refine ⟨a, es, a, us, v, rfl, rfl, hH, by rw [← hL.len]; exact e1, ?_⟩
          exact h.scal f3 s3 (by rw [eS]; exact q1)
      · cases e
    | _ :: _, e => simp [mutD] at e
  | pop1 =>
    simp only [mtN, Option.some.injEq, Prod.mk.injEq] at hb; obtain ⟨rfl, rfl⟩ := hb
    refine ⟨_, mt_popAt, PySem.F.slot_list_pop, PySem.F.type_list_pop, ?_⟩
    intro w w2 H H2 Rb σ st2 st3 i x y ret ds vs Q f s hx e hv hp h
    obtain ⟨xs, ed⟩ := mut_inv e
    rw [ed] at e
    obtain ⟨r, a, us, o, es, ha, hH, hO, hL, put⟩ := putN_snd s hx ed
    match ds, e with
    | [.int n], e =>
      simp only [mutD] at e
      split at e
      · rename_i hl
        cases ej : ixI xs.length n with
        | none => rw [ej] at e; cases e
        | some j =>
          rw [ej] at e
          simp only [Option.bind_some] at e
          cases el : xs[j]? with
          | none => rw [el] at e; cases e
          | some d =>
            rw [el] at e
            cases e
            obtain ⟨v, rfl, qv⟩ := hv.one
            have : v = .int n := by simpa only [Rp] using qv
            subst this
            have hO' : o = .lst us := hO
            subst hO'
            have hxs := hL.shS hl.1
            obtain ⟨w3, f3, s3, eS⟩ := put (k' := .lst) (o' := .lst (us.eraseIdx j)) (own' := w2.own) (vs' := us.eraseIdx j) f (fun b q p _ hb => hb) (fun b hb => .inl hb) ha rfl rfl (RpL.ofS (w := ⟨w2.S, w2.own, w2.io⟩) (hxs.erase j)) hp
            obtain ⟨v, e1, q1⟩ := hxs.get el
            have ej' : ixN us.length n = some j := by rw [← hL.len]; exact ej
            have hb1 := hl.2.1
            have hb2 := hl.2.2
            exact ⟨a, es, a, us, n, j, v, rfl, rfl, hH, by omega, by omega, (ixN_seq ej').1, e1, h.scal f3 s3 (by rw [eS]; exact q1)⟩
      · cases e
  | clear =>
    simp only [mtN, Option.some.injEq, Prod.mk.injEq] at hb; obtain ⟨rfl, rfl⟩ := hb
    refine ⟨_, mt_clear, PySem.F.slot_list_clear, PySem.F.type_list_clear, ?_⟩
    intro w w2 H H2 Rb σ st2 st3 i x y ret ds vs Q f s hx e hv hp h
    obtain ⟨xs, ed⟩ := mut_inv e
    rw [ed] at e
    obtain ⟨r, a, us, o, es, ha, hH, hO, hL, put⟩ := putN_snd s hx ed
    match ds, e with
    | [], e =>
      simp only [mutD] at e
      cases e
      have hv' : vs = [] := by simpa only [RpT] using hv
      subst hv'
      have hO' : o = .lst us := hO
      subst hO'
      obtain ⟨w3, f3, s3, eS⟩ := put (k' := .lst) (o' := .lst []) (own' := w2.own) (vs' := []) f (fun b q p _ hb => hb) (fun b hb => .inl hb) ha rfl rfl (by simp only [RpL]) hp
      exact ⟨a, es, a, us, rfl, rfl, hH, h.scal f3 s3 rpS_non⟩
    | _ :: _, e => simp [mutD] at e
  | reverse =>
    simp only [mtN, Option.some.injEq, Prod.mk.injEq] at hb; obtain ⟨rfl, rfl⟩ := hb
    refine ⟨_, mt_reverse, PySem.F.slot_list_reverse, PySem.F.type_list_reverse, ?_⟩
    intro w w2 H H2 Rb σ st2 st3 i x y ret ds vs Q f s hx e hv hp h
    obtain ⟨xs, ed⟩ := mut_inv e
    rw [ed] at e
    obtain ⟨r, a, us, o, es, ha, hH, hO, hL, put⟩ := putN_snd s hx ed
    match ds, e with
    | [], e =>
      simp only [mutD] at e
      split at e
      · rename_i hl
        cases e
        have hv' : vs = [] := by simpa only [RpT] using hv
        subst hv'
        have hO' : o = .lst us := hO
        subst hO'
        obtain ⟨w3, f3, s3, eS⟩ := put (k' := .lst) (o' := .lst us.reverse) (own' := w2.own) (vs' := us.reverse) f (fun b q p _ hb => hb) (fun b hb => .inl hb) ha rfl rfl (RpL.ofS (w := ⟨w2.S, w2.own, w2.io⟩) (hL.shS hl).rev) hp
        exact ⟨a, es, a, us, rfl, rfl, hH, h.scal f3 s3 rpS_non⟩
      · cases e
    | _ :: _, e => simp [mutD] at e
  | insert => simp [mtN] at hb
end
end VS
/-! VS24: changes, as expressions and statements. -/
namespace VS
open PySem PySem.Spec L2
open PyProof.Rows hiding St
section
variable {W : Wd} {F : Cl} {c : Ck} {X : Cx} {E : L2.WX} {w w1 w2 w0 : Wh} {H H1 H2 H0 : Hp} {R Ra Rb R1 : Own} {σ : L2.St} {st st' : Sg} {Q : VK} {DD : Ends}
theorem evvRead {es : CEs} {good : List D → Sg → Prop} {K : List V → Hp → Prop} (fr : Fr w H w1 Ra H1) (s : SRep W w1 H1 σ st) (h : PostR W w H E good (evv F es st))
    (k : ∀ vs H2 w2 Rb ds st2, Fr w1 H1 w2 Rb H2 → SRep W w2 H2 σ st2 → RpT W (w2.wth Rb) H2 0 ds vs → good ds st2 → K vs H2) : semVj W F E 0 es σ H1 K := by
  refine ⟨w1, st, s, ?_⟩
  have := PostR.stepL (σ := σ) (j := 0) fr h
  revert this
  cases evv F es st with
  | ok d st2 =>
    intro this w2 Rb H2 v f2 s2 h2
    obtain ⟨w3, Rc, d3, st3, e3, f3, s3, h3, q3⟩ := this w2 Rb H2 v f2 s2 h2
    cases e3
    exact k v H2 w2 Rb d st2 f2 s2 h2 q3
  | ex x st2 => exact fun this => this
  | bad => exact fun this => this
theorem few1 {e : Expr} {env : Env} {cpos : Pos} (h : noStar e = true) : ((backTo cpos (starEach [e] env)).all (fun x => !x.1) && (backToKw cpos (keywordEach [] env)).all (fun x => x.1.isSome)
      && decide (([e] : List Expr).length + ([] : List Keyword).length + (if ([] : List Keyword).isEmpty then 0 else 1) < 30)) = true := by
  rw [starEach_cons h]; rfl
/-- a.append(x), .. -/
theorem snd_mut {b : Mut} {i : Nat} {m : Md} {es : CEs} {eo : Expr} {l : List Expr} {nm id : String} {ap p : Pos} (g : Gd W F c X E) (So : Snd W F (.nm i m) E X eo) (S : SndL W F es E X l) (hb : mtN b = some (nm, id)) (hl : l.length ≤ 1) (hline : (ap.endLine == p.line) = true) (hp : plainA eo = true) :
    Snd W F (.mut b (.nm i m) es) E X (.Call (.Attribute eo (sn nm) ap) l [] p) := by
  obtain ⟨r, hm, hs, ht, hr⟩ := mut_snd (W := W) (X := X) (E := E) b hb
  have hv : PE X (.Call (.Attribute eo (sn nm) ap) l [] p) (semE W F E (.mut b (.nm i m) es)) := by
    have pre : ∀ {σ : L2.St} {H : Hp} {Q : VK}, semE W F E (.mut b (.nm i m) es) σ H Q → ∃ a w st, σ[i]? = some (some (.ref a)) ∧ L2.tyV X.K "list" (.ref a) H ∧ SRep W w H σ st ∧
        PostE W w H σ Q E ((evv F es st).bind fun ds st => (Rs.of ((st.sl[i]?).join) st).bind fun x st => (Rs.of (mutD b (drf st.m x) ds) st).bind fun p st => (Rs.of (putN i p.1 st) st).bind fun st' _ => .ok p.2 st') := by
      intro σ H Q h
      obtain ⟨w, st, s, h⟩ := h
      have h' : PostE W w H σ Q E ((Rs.of (((st.sl[i]?).join).bind fun x => if isLst (drf st.m x) then some x else none) st).bind fun _ st => (evv F es st).bind fun ds st => (Rs.of ((st.sl[i]?).join) st).bind fun x st =>
        (Rs.of (mutD b (drf st.m x) ds) st).bind fun p st => (Rs.of (putN i p.1 st) st).bind fun st' _ => .ok p.2 st') := h
      obtain ⟨x0, e0, h2⟩ := PostR.of (PostR.ofE h')
      cases e1 : (st.sl[i]?).join with
      | none => rw [e1] at e0; cases e0
      | some x1 =>
        rw [e1] at e0
        simp only [Option.bind_some] at e0
        split at e0
        · rename_i hl0
          cases e0
          obtain ⟨v, ev1, q1⟩ := s.slo i x0 (slot_some e1)
          have q2 := RpA.drf s (RpA.of (R := noR) q1)
          revert hl0 q2
          cases hd : drf st.m x0 with
          | node o k xs =>
            intro hl0 q2
            cases k with
            | lst =>
              obtain ⟨a, vs, rfl, ra, _⟩ := q2.list X.K s
              exact ⟨a, w, st, ev1, .inl ⟨rfl, vs, ra⟩, s, h2⟩
            | _ => simp [isLst] at hl0
          | _ => intro hl0; simp [isLst] at hl0
        · cases e0
    have post : ∀ {w w2 : Wh} {H H2 : Hp} {Rb : Own} {σ : L2.St} {st2 : Sg} {ds : List D} {vs : List V} {Q : VK} {a : Addr}, σ[i]? = some (some (.ref a)) → Fr w H w2 Rb H2 → SRep W w2 H2 σ st2 → RpT W (w2.wth Rb) H2 0 ds vs →
        PostE W w H σ Q E ((Rs.of ((st2.sl[i]?).join) st2).bind fun x st => (Rs.of (mutD b (drf st.m x) ds) st).bind fun p st => (Rs.of (putN i p.1 st) st).bind fun st' _ => .ok p.2 st') → r (.ref a) vs H2 Q := by
      intro w w2 H H2 Rb σ st2 ds vs Q a ha f s hvs h
      obtain ⟨x, ex, h2⟩ := PostR.of (PostR.ofE h)
      obtain ⟨⟨y, ret⟩, ey, h3⟩ := PostR.of (PostR.ofE h2)
      obtain ⟨st3, e3, h4⟩ := PostR.of (PostR.ofE h3)
      obtain ⟨a2, ea2, q⟩ := hr f s ex ey hvs e3 h4
      rw [ha] at ea2
      cases ea2
      exact q
    cases l with
    | nil =>
      refine peW (pe_bm0 PySem.F.plainAttrs_list hs ht hm (So.n i m rfl) (plainA_base hp) hline) fun σ H Q h => ?_
      obtain ⟨a, w, st, ea, ty, s, h2⟩ := pre h
      refine ⟨.ref a, ea, ty, ?_⟩
      cases es with
      | nil => exact post (ds := []) ea (Fr.refl w H) s (by simp only [RpT]) h2
      | cons a0 r0 => have := S.len; simp [CEs.len] at this
    | cons e l =>
      have hns := S.ns
      simp only [List.all_cons, Bool.and_eq_true] at hns
      cases l with
      | cons e2 l2 => simp at hl
      | nil =>
        refine peW (pe_bm PySem.F.plainAttrs_list hs ht hm (So.n i m rfl) (S.v 0) (plainA_base hp) (few1 hns.1) hline (starEach_cons hns.1) (plain_star hns.2)) fun σ H Q h => ?_
        obtain ⟨a, w, st, ea, ty, s, h2⟩ := pre h
        refine ⟨.ref a, ea, ty, evvRead (Fr.refl w H) s (PostR.ofE h2) fun vs H2 w2 Rb ds st2 f2 s2 hvs h3 => ?_⟩
        exact post ea f2 s2 hvs h3
  exact ⟨hv, PT.of_v g hv rfl fun _ => rfl, (fun z => by cases z), (fun _ _ z => by cases z), rfl⟩
/-! ### stores at places -/
def rSetA : TSet := fun o i v H Q => rSetL o i v H Q ∨ rSetD o i v H Q
theorem set_any (hu : X.A.units + 200 < cLine) : PSet X rSetA := by
  intro pins s σ H o i v ov iv u Q I ro ri rv h
  rcases h with h | h
  · exact set_list pins s σ H o i v ov iv u Q I ro ri rv h
  · exact set_dict (by omega) pins s σ H o i v ov iv u Q I ro ri rv h
theorem zipK_len {α : Type} : ∀ {ks : List α} {vs : List V}, ks.length = vs.length → (zipK ks vs).length = vs.length
  | [], vs, h => by cases vs with | nil => rfl | cons => simp at h
  | k :: ks, [], h => by simp at h
  | k :: ks, v :: vs, h => by simp only [zipK, List.length_cons]; rw [zipK_len (by simpa using h)]
theorem setD_gen {k : Kn} {xs : List D} {d y kd : D} {v u : V} {r : Ix} {pa : Ps} {a : Addr} {us : List V} {ho : HO} (f : Fr w H w2 R1 H2) (s : SRep W w2 H2 σ st) (e : setD (.node true k xs) kd d = some y) (hd : Rp W (w2.wth R1) H2 (.temp 0) d none v) (hk : RpA W w2 Rb H2 kd u)
    (ha : w2.own a = some (r, pa)) (hH : H2 a = some ho) (hO : HOm W us k ho) (hL : RpL W w2 H2 r xs a 0 us) (old : ∀ {j o'}, RpL W ⟨w2.S, addR r a j R1 w2.own, w2.io⟩ (upd H2 a o') r xs a 0 us)
    (put : ∀ {k' xs' vs' o' j}, y = .node true k' xs' → HOm W vs' k' o' → ktO o' = false → RpL W ⟨w2.S, addR r a j R1 w2.own, w2.io⟩ (upd H2 a o') r xs' a 0 vs' → ∃ w3, Fr w H w3 noR (upd H2 a o') ∧ SRep W w3 (upd H2 a o') σ st')
    (Q : Hp → Prop) (q : ∀ w3 H3, Fr w H w3 noR H3 → SRep W w3 H3 σ st' → Q H3) : rSetA (.ref a) u v H2 Q := by
  cases k with
  | lst =>
    cases kd with
    | int n =>
      simp only [setD] at e
      cases ej : ixI xs.length n with
      | none => rw [ej] at e; cases e
      | some j =>
        rw [ej] at e
        simp only [Option.map_some, Option.some.injEq] at e
        subst e
        have hO' : ho = .lst us := hO
        subst hO'
        obtain ⟨w3, f3, s3⟩ := put (k' := .lst) (o' := .lst (us.set j v)) (j := j) (vs' := us.set j v) rfl rfl rfl
          (old.set (by rw [Nat.zero_add]; exact new_child f ha hd))
        exact .inl ⟨a, us, n, j, rfl, hk.int, hH, by rw [← hL.len]; exact ej, q w3 _ f3 s3⟩
    | _ => simp [setD] at e
  | dK ks =>
    have e' : (if xs.length < 16000000 then (keyA kd).map fun k => D.dK true (putK k d ks xs).1 (putK k d ks xs).2 else none) = some y := by cases kd <;> exact e
    split at e'
    · rename_i hl
      cases ek : keyA kd with
      | none => rw [ek] at e'; cases e'
      | some kk =>
        rw [ek] at e'
        simp only [Option.map_some, Option.some.injEq] at e'
        subst e'
        obtain ⟨hO', l1, l2⟩ := hO
        subst hO'
        have lx := hL.len
        obtain ⟨z1, z2, z3, z4⟩ := putK_zip keyK (fun _ _ => keyK_inj) kk d v (ks := ks) (xs := xs) (vs := us) l1 (by rw [l1, lx]) l2
        obtain ⟨w3, f3, s3⟩ := put (k' := .dK (putK kk d ks xs).1) (o' := .dK (zipK ((putK kk d ks xs).1.map keyK) (putV kk v ks us))) (j := (atK kk ks)) (vs' := putV kk v ks us) rfl ⟨rfl, z2, z3⟩ rfl
          (RpL.putK kk (by rw [l1, lx]) old (by rw [Nat.zero_add]; exact new_child f ha hd))
        refine .inr ⟨a, _, rfl, .inl ⟨_, keyK kk, hH, keyA_rep ek hk, ?_, rfl⟩, ?_⟩
        · rw [zipK_len (by simpa using l1), ← lx, sizeLine_eq]; omega
        · rw [z1]; exact q w3 _ f3 s3
    · cases e'
  | dT ks =>
    have e' : (if xs.length < 16000000 then (keyT kd).map fun k => D.dT true (putK k d ks xs).1 (putK k d ks xs).2 else none) = some y := by cases kd <;> exact e
    split at e'
    · rename_i hl
      cases ek : keyT kd with
      | none => rw [ek] at e'; cases e'
      | some kk =>
        rw [ek] at e'
        simp only [Option.map_some, Option.some.injEq] at e'
        subst e'
        obtain ⟨hO', l1, l2⟩ := hO
        subst hO'
        have lx := hL.len
        have key : ∃ b, u = .ref b ∧ H2 b = some (.tup ((kk.map keyK).map kV)) := by
          cases kd with
          | node o3 k3 ys =>
            cases o3 with
            | true => cases k3 <;> simp [keyT] at ek
            | false =>
              cases k3 with
              | tup =>
                obtain ⟨b, vs3, rfl, rb, lb⟩ := hk.node s.sle
                refine ⟨b, rfl, ?_⟩
                have := keyAs_rep (show keyAs ys = some kk from ek) lb
                rw [← this]; exact rb.tup'
              | _ => simp [keyT] at ek
          | _ => simp [keyT] at ek
        obtain ⟨b, rfl, hb⟩ := key
        obtain ⟨z1, z2, z3, z4⟩ := putK_zip (fun k : List KA => k.map keyK) mapK_inj kk d v (ks := ks) (xs := xs) (vs := us) l1 (by rw [l1, lx]) l2
        obtain ⟨w3, f3, s3⟩ := put (k' := .dT (putK kk d ks xs).1) (o' := .dT (zipK ((putK kk d ks xs).1.map fun k => k.map keyK) (putV kk v ks us))) (j := (atK kk ks)) (vs' := putV kk v ks us) rfl ⟨rfl, z2, z3⟩ rfl
          (RpL.putK kk (by rw [l1, lx]) old (by rw [Nat.zero_add]; exact new_child f ha hd))
        refine .inr ⟨a, _, rfl, .inr ⟨_, kk.map keyK, b, hH, rfl, hb, ?_, rfl⟩, ?_⟩
        · rw [zipK_len (by simpa using l1), ← lx, sizeLine_eq]; omega
        · rw [z1]; exact q w3 _ f3 s3
    · cases e'
  | _ => simp [setD] at e
theorem setD_snd {i : Nat} {x d y kd : D} {v u : V} (f : Fr w H w2 R1 H2) (s : SRep W w2 H2 σ st) (hx : (st.sl[i]?).join = some x) (e : setD (drf st.m x) kd d = some y) (hd : Rp W (w2.wth R1) H2 (.temp 0) d none v) (hk : RpA W w2 Rb H2 kd u)
    (hp : putN i y st = some st') : ∃ a, σ[i]? = some (some (.ref a)) ∧ ∀ (Q : Hp → Prop), (∀ w3 H3, Fr w H w3 noR H3 → SRep W w3 H3 σ st' → Q H3) → rSetA (.ref a) u v H2 Q := by
  cases hdr : drf st.m x with
  | node o k xs =>
    rw [hdr] at e
    cases o with
    | false => cases k <;> simp [setD] at e
    | true =>
      obtain ⟨r, a, us, ho, es, ha, hH, hO, hL, put⟩ := putN_snd s hx hdr
      refine ⟨a, es, fun Q q => setD_gen f s e hd hk ha hH hO hL (old_child ha (fun b p hb => addR_o hb) hL) (fun {k' xs' vs' o' j} z h1 hkt h2 => ?_) Q q⟩
      subst z
      obtain ⟨w3, f3, s3, _⟩ := put f (fun b q p _ hb => addR_o hb) (fun b hb => addR_ne hb) (addR_o ha) h1 hkt h2 hp
      exact ⟨w3, f3, s3⟩
  | _ => rw [hdr] at e; cases kd <;> simp [setD] at e
theorem assign_sub {oe ie : Expr} {p : Pos} {env : Env} (h : plainI ie = true) : ∀ v, assign (.Subscript oe ie p) env v = (do
      let ov ← holding [v] (eval oe env)
      let iv ← holding [v, ov] (eval ie env)
      standAt p
      holding [v, ov, iv] (setItem ov iv v)
      release [v, ov, iv] []) := by
  intro v
  cases ie <;> first | rfl | (simp [plainI] at h)
theorem sws1 {t e : Expr} {l : Nat} {env : Env} (h : noComp e = true) : swapsWithSole [t] e l env = pure false := sw_no h
theorem s_setI {i : Nat} {m : Md} {ci e : CE} {oe ie ee : Expr} {p p2 : Pos} (g : Gd W F c X E) (So : Snd W F (.nm i m) E X oe) (Si : Snd W F ci E X ie) (S : PE X ee (semE W F E e)) (h1 : noComp ee = true) (hi : plainI ie = true) : PS X (.Assign [.Subscript oe ie p2] ee p) (semS W F E (.setI (.nm i m) ci e)) := by
  refine psW (ps_asg S (pg_sub (So.n i m rfl) (snd_opd Si) (set_any g.un) (assign_sub hi)) (sws1 h1)) fun DD σ H h => ?_
  obtain ⟨w, st, s, h⟩ := h
  have h' : PostS W w H DD E ((ev F e st).ob fun d st => (Rs.of ((st.sl[i]?).join) st).ob fun _ st => (opd ci.isPk (pk F ci) (ev F ci) st).ob fun k st => (Rs.of (((st.sl[i]?).join).bind fun x => (setD (drf st.m x) k d).bind fun y => putN i y st) st).ob fun st' _ => .nx st') := h
  refine evRead (Fr.refl w H) s (PostR.ofS h') fun v H1 w1 R1 d st1 f1 s1 hv h2 => ?_
  obtain ⟨x0, e0, h3⟩ := PostR.of (PostR.ofS h2)
  obtain ⟨u0, eu0, _⟩ := s1.slo i x0 (slot_some e0)
  refine ⟨u0, eu0, ?_⟩
  refine opd_read f1 s1 (PostR.ofS h3) fun y H2 w2 Rb kd st2 _ f2 s2 hy h4 => ?_
  obtain ⟨st', e5, h5⟩ := PostR.of (PostR.ofS h4)
  cases e6 : (st2.sl[i]?).join with
  | none => rw [e6] at e5; cases e5
  | some x =>
    rw [e6] at e5
    simp only [Option.bind_some] at e5
    cases e7 : setD (drf st2.m x) kd d with
    | none => rw [e7] at e5; cases e5
    | some z =>
      rw [e7] at e5
      simp only [Option.bind_some] at e5
      have ff : Fr w H w2 R1 H2 := (f1.trans f2).less fun x hx => by
        unfold ownU
        cases hR : R1 x with
        | none => exact absurd hR hx
        | some t => simp
      obtain ⟨a, ea, q⟩ := setD_snd ff s2 e6 e7 (f1.held f2 hv) hy e5
      rw [eu0] at ea
      cases ea
      exact q _ fun w3 H3 f3 s3 => h5 w3 σ H3 f3 s3
/-! ### stores in fields -/
theorem putF_zip (f : String) (d : D) (v : V) : ∀ {ns : List String} {xs : List D} {vs : List V}, ns.length = vs.length → ns.length = xs.length → ns.Nodup →
    L2.putF (sn f) v (zipK (ns.map sn) vs) = zipK ((putF f d ns xs).1.map sn) (putV f v ns vs) ∧ (putF f d ns xs).1.length = (putV f v ns vs).length ∧ (putF f d ns xs).1.Nodup ∧ ∀ j, j ∈ (putF f d ns xs).1 → j = f ∨ j ∈ ns
  | [], xs, vs, h1, h2, _ => by
    have : vs = [] := by cases vs with | nil => rfl | cons => simp at h1
    subst this
    refine ⟨by simp [L2.putF, zipK, putF, putV], by simp [putF, putV], by simp [putF], fun j hj => .inl (by simpa [putF] using hj)⟩
  | j :: js, [], _, _, h2, _ => by simp at h2
  | j :: js, _ :: _, [], h1, _, _ => by simp at h1
  | j :: js, x :: xs, y :: ys, h1, h2, hn => by
    simp only [List.nodup_cons] at hn
    have ih := putF_zip f d v (ns := js) (xs := xs) (vs := ys) (by simpa using h1) (by simpa using h2) hn.2
    by_cases e : j = f
    · subst e
      simp only [putF, putV, if_true, List.map_cons, zipK, L2.putF]
      exact ⟨trivial, by simpa using h1, by simp [hn], fun i hi => .inr hi⟩
    · have e' : ¬ sn j = sn f := fun q => e (sn_inj q)
      simp only [putF, putV, if_neg e, List.map_cons, zipK, L2.putF, if_neg e']
      refine ⟨by rw [ih.1], by simp [ih.2.1], ?_, fun i hi => ?_⟩
      · simp only [List.nodup_cons]
        exact ⟨fun q => (ih.2.2.2 j q).elim (fun z => e z) hn.1, ih.2.2.1⟩
      · simp only [List.mem_cons] at hi ⊢
        rcases hi with rfl | hi
        · exact .inr (.inl rfl)
        · rcases ih.2.2.2 i hi with z | z
          · exact .inl z
          · exact .inr (.inr z)
theorem RpL.putF {r : Ix} {a : Addr} {d : D} {u : V} (k : String) : ∀ {ks : List String} {xs : List D} {j : Nat} {vs : List V}, ks.length = xs.length → RpL W w H r xs a j vs → Rp W w H r d (some (a, j + atK k ks)) u → RpL W w H r (VS.putF k d ks xs).2 a j (putV k u ks vs)
  | [], xs, j, vs, h, hl, hd => by
    have : xs = [] := by cases xs with | nil => rfl | cons => simp at h
    subst this
    simp only [VS.putF, putV, RpL]
    exact ⟨u, [], rfl, by simpa [atK] using hd, rfl⟩
  | b :: ks, [], _, _, h, _, _ => by simp at h
  | b :: ks, x :: xs, j, vs, h, hl, hd => by
    simp only [RpL] at hl
    obtain ⟨v, s, rfl, q, t⟩ := hl
    by_cases e : b = k
    · simp only [VS.putF, putV, if_pos e, RpL]
      exact ⟨u, s, rfl, by simpa [atK, e] using hd, t⟩
    · simp only [VS.putF, putV, if_neg e, RpL]
      refine ⟨v, _, rfl, q, RpL.putF k (by simpa using h) t ?_⟩
      rw [show j + 1 + atK k ks = j + atK k (b :: ks) by simp [atK, e]; omega]; exact hd
theorem s_setF {i : Nat} {m : Md} {f : String} {e : CE} {oe ee : Expr} {p p2 : Pos} (g : Gd W F c X E) (So : Snd W F (.nm i m) E X oe) (S : PE X ee (semE W F E e)) (hf : f ∈ c.fl) (h1 : noComp ee = true) : PS X (.Assign [.Attribute oe (sn f) p2] ee p) (semS W F E (.setF (.nm i m) f e)) := by
  refine psW (ps_fld (So.n i m rfl) S (sw_no h1)) fun DD σ H h => ?_
  obtain ⟨w, st, s, h⟩ := h
  have h' : PostS W w H DD E ((ev F e st).ob fun d st => (Rs.of (((st.sl[i]?).join).bind fun x => (setFD (drf st.m x) f d).bind fun y => putN i y st) st).ob fun st' _ => .nx st') := h
  refine evRead (Fr.refl w H) s (PostR.ofS h') fun v H1 w1 R1 d st1 f1 s1 hv h2 => ?_
  obtain ⟨st', e5, h5⟩ := PostR.of (PostR.ofS h2)
  cases e6 : (st1.sl[i]?).join with
  | none => rw [e6] at e5; cases e5
  | some x =>
    rw [e6] at e5
    simp only [Option.bind_some] at e5
    cases hdr : drf st1.m x with
    | node o k xs =>
      rw [hdr] at e5
      cases o with
      | false => cases k <;> simp [setFD] at e5
      | true =>
        cases k with
        | obj q ns =>
          simp only [setFD] at e5
          split at e5
          · rename_i hl
            simp only [Option.bind_some] at e5
            obtain ⟨r, a, us, ho, es, ha, hH, hO, hL, put⟩ := putN_snd s1 e6 hdr
            obtain ⟨dx, hO', l1, l2, hc⟩ := hO
            subst hO'
            have lx := hL.len
            obtain ⟨z1, z2, z3, z4⟩ := putF_zip f d v (ns := ns) (xs := xs) (vs := us) l1 (by rw [l1, lx]) l2
            obtain ⟨w3, f3, s3, _⟩ := put (k' := .obj q (putF f d ns xs).1) (o' := .ins (W.cls q) dx (zipK ((putF f d ns xs).1.map sn) (putV f v ns us))) (own' := addR r a (atK f ns) R1 w1.own) (vs' := putV f v ns us) f1 (fun b q p _ hb => addR_o hb) (fun b hb => addR_ne hb) (addR_o ha) ⟨dx, rfl, z2, z3, hc⟩ rfl
              (RpL.putF f (by rw [l1, lx]) (old_child ha (fun b p hb => addR_o hb) hL) (by rw [Nat.zero_add]; exact new_child f1 ha hv)) e5
            refine ⟨.ref a, es, a, W.cls q, dx, _, rfl, hH, g.cls q hc, g.na q hc f hf, ?_, ?_⟩
            · rw [zipK_len (by simpa using l1), ← l1]; omega
            · rw [z1]; exact h5 w3 σ _ f3 s3
          · cases e5
        | _ => simp [setFD] at e5
    | _ => rw [hdr] at e5; simp [setFD] at e5
end
end VS
/-! VS24b: a thing that stands in a field of a thing is changed. -/
namespace VS
open PySem PySem.Spec L2
open PyProof.Rows hiding St
section
variable {W : Wd} {F : Cl} {c : Ck} {X : Cx} {E : L2.WX} {w w1 w2 w0 : Wh} {H H1 H2 H0 : Hp} {R Ra Rb R1 : Own} {σ : L2.St} {st st' : Sg} {Q : VK} {DD : Ends}
/-- what stands under a name is another tree from here on -/
theorem putN_any {i : Nat} {x : D} {k : Kn} {xs : List D} (s : SRep W w H σ st) (hx : (st.sl[i]?).join = some x) (hd : drf st.m x = .node true k xs) :
    ∃ r a vs o, σ[i]? = some (some (.ref a)) ∧ w.own a = some (r, none) ∧ H a = some o ∧ HOm W vs k o ∧ RpL W w H r xs a 0 vs ∧
      ∀ {own' H' k' xs' st'}, (∀ b u, w.S b = some u → RdX H' b u) → (∀ b t, own' b = some t → w.S b = none ∧ Lv H' b) → (∀ q, q ≠ r → Kp w ⟨w.S, own', w.io⟩ H H' q q) →
        Rp W ⟨w.S, own', w.io⟩ H' r (.node true k' xs') none (.ref a) → putN i (.node true k' xs') st = some st' → SRep W ⟨w.S, own', w.io⟩ H' σ st' := by
  have hs := slot_some hx
  obtain ⟨v, e, q⟩ := s.slo i x hs
  cases x with
  | cell n =>
    have hm : st.m[n]? = some (.node true k xs) := by
      have hd' : (st.m[n]?).getD (.cell n) = .node true k xs := hd
      cases em : st.m[n]? with
      | none => rw [em] at hd'; cases hd'
      | some y => rw [em] at hd'; exact congrArg some hd'
    obtain ⟨a, ea, qa⟩ := s.cel n _ hm
    have qv : v = .ref a := by
      simp only [Rp] at q
      obtain ⟨b, eb, rfl⟩ := q
      rw [ea] at eb; cases eb; rfl
    subst qv
    simp only [Rp] at qa
    obtain ⟨b, vs, o, eb, ha, hH, hO, hL⟩ := qa
    cases eb
    refine ⟨.cell n, a, vs, o, e, ha, hH, hO, hL, ?_⟩
    intro own' H' k' xs' st' a1 a2 a3 hn hp
    unfold putN at hp
    rw [hx] at hp
    simp only at hp
    split at hp
    · cases hp
      refine ⟨a1, a2, by simpa using s.iol, fun j d hj => ?_, fun j d hj => ?_, s.len⟩
      · have hj' : (st.m.set n (.node true k' xs'))[j]? = some d := hj
        by_cases z : n = j
        · subst z
          rw [List.getElem?_set_self (by assumption)] at hj'
          cases hj'
          exact ⟨a, ea, hn⟩
        · rw [List.getElem?_set_ne z] at hj'
          obtain ⟨b, eb, qb⟩ := s.cel j d hj'
          exact ⟨b, eb, Rp.mono (a3 (.cell j) (fun zz => z (by injection zz with zz; exact zz.symm))) qb⟩
      · obtain ⟨u, eu, qu⟩ := s.slo j d hj
        exact ⟨u, eu, Rp.mono (a3 (.slot j) (fun zz => by cases zz)) qu⟩
    · cases hp
  | node b k2 xs2 =>
    cases hd
    simp only [Rp] at q
    obtain ⟨a, vs, o, rfl, ha, hH, hO, hL⟩ := q
    refine ⟨.slot i, a, vs, o, e, ha, hH, hO, hL, ?_⟩
    intro own' H' k' xs' st' a1 a2 a3 hn hp
    unfold putN at hp
    rw [hx] at hp
    simp only [Option.some.injEq] at hp
    subst hp
    refine ⟨a1, a2, s.iol, fun j d hj => ?_, fun j d hj => ?_, by simpa using s.len⟩
    · obtain ⟨u, eu, qu⟩ := s.cel j d hj
      exact ⟨u, eu, Rp.mono (a3 (.cell j) (fun zz => by cases zz)) qu⟩
    · rcases set_get hj with ⟨z, e2⟩ | ⟨z, e2⟩
      · subst z
        cases e2
        exact ⟨.ref a, e, hn⟩
      · obtain ⟨u, eu, qu⟩ := s.slo j d e2
        exact ⟨u, eu, Rp.mono (a3 (.slot j) (fun zz => z (by injection zz with zz; exact zz.symm))) qu⟩
  | _ => cases hd
section
variable {r : Ix} {a b : Addr} {j : Nat} {o' : HO} {own' : Own}
mutual
/-- what stands beside a changed child stays -/
theorem Rp.side (hb : w.own b = some (r, some (a, j))) (ha : w.own a = some (r, none)) (c : ∀ x p, w.own x = some (r, some p) → own' x = some (r, some p)) :
    ∀ {d : D} {q : Addr × Nat} {v : V}, q ≠ (a, j) → Rp W w H r d (some q) v → Rp W ⟨w.S, own', w.io⟩ (upd H b o') r d (some q) v
  | .non, _, _, _, h => by simpa only [Rp] using h
  | .bl _, _, _, _, h => by simpa only [Rp] using h
  | .int _, _, _, _, h => by simpa only [Rp] using h
  | .str _, _, _, _, h => by simpa only [Rp] using h
  | .node false k xs, _, _, _, h => by simpa only [Rp] using h
  | .node true k xs, q, v, hq, h => by
    simp only [Rp] at h ⊢
    obtain ⟨x, vs, ho, e, hx, hH, hO, hL⟩ := h
    have hxb : x ≠ b := fun z => by
      subst z
      rw [hb] at hx
      injection hx with hx
      injection hx with _ hx
      injection hx with hx
      exact hq hx.symm
    have hxa : x ≠ a := fun z => by
      subst z
      rw [ha] at hx
      injection hx with hx
      injection hx with _ hx
      cases hx
    exact ⟨x, vs, ho, e, c x q hx, by rw [upd_ne hxb]; exact hH, hO, RpL.side hb ha c hxa hL⟩
  | .cell n, _, _, _, h => by simpa only [Rp] using h
theorem RpL.side (hb : w.own b = some (r, some (a, j))) (ha : w.own a = some (r, none)) (c : ∀ x p, w.own x = some (r, some p) → own' x = some (r, some p)) :
    ∀ {xs : List D} {x : Addr} {i : Nat} {vs : List V}, x ≠ a → RpL W w H r xs x i vs → RpL W ⟨w.S, own', w.io⟩ (upd H b o') r xs x i vs
  | [], _, _, _, _, h => by simpa only [RpL] using h
  | y :: ys, x, i, vs, hx, h => by
    simp only [RpL] at h ⊢
    obtain ⟨v, s, e, q, t⟩ := h
    exact ⟨v, s, e, Rp.side hb ha c (fun z => hx (congrArg Prod.fst z)) q, RpL.side hb ha c hx t⟩
end
theorem RpL.after (hb : w.own b = some (r, some (a, j))) (ha : w.own a = some (r, none)) (c : ∀ x p, w.own x = some (r, some p) → own' x = some (r, some p)) :
    ∀ {xs : List D} {i : Nat} {vs : List V}, j < i → RpL W w H r xs a i vs → RpL W ⟨w.S, own', w.io⟩ (upd H b o') r xs a i vs
  | [], _, _, _, h => by simpa only [RpL] using h
  | y :: ys, i, vs, hi, h => by
    simp only [RpL] at h ⊢
    obtain ⟨v, s, e, q, t⟩ := h
    exact ⟨v, s, e, Rp.side hb ha c (fun z => by have := congrArg Prod.snd z; simp at this; omega) q, RpL.after hb ha c (by omega) t⟩
theorem RpL.childAt (hb : w.own b = some (r, some (a, j))) (ha : w.own a = some (r, none)) (c : ∀ x p, w.own x = some (r, some p) → own' x = some (r, some p)) {y : D} (hy : Rp W ⟨w.S, own', w.io⟩ (upd H b o') r y (some (a, j)) (.ref b)) :
    ∀ {xs : List D} {i n : Nat} {vs : List V}, i + n = j → vs[n]? = some (.ref b) → RpL W w H r xs a i vs → RpL W ⟨w.S, own', w.io⟩ (upd H b o') r (xs.set n y) a i vs
  | [], _, _, vs, _, hv, h => by
    simp only [RpL] at h
    subst h
    simp at hv
  | x :: xs, i, 0, vs, e, hv, h => by
    simp only [RpL] at h
    obtain ⟨v, s, rfl, q, t⟩ := h
    simp at hv
    subst hv
    have e' : i = j := by omega
    subst e'
    simp only [List.set_cons_zero, RpL]
    exact ⟨_, s, rfl, hy, RpL.after hb ha c (by omega) t⟩
  | x :: xs, i, n + 1, vs, e, hv, h => by
    simp only [RpL] at h
    obtain ⟨v, s, rfl, q, t⟩ := h
    simp only [List.set_cons_succ, RpL]
    exact ⟨v, s, rfl, Rp.side hb ha c (fun z => by have := congrArg Prod.snd z; simp at this; omega) q, RpL.childAt hb ha c hy (by omega) (by simpa using hv) t⟩
end
theorem RpL.at {r : Ix} {a : Addr} {d : D} : ∀ {xs : List D} {i n : Nat} {vs : List V}, RpL W w H r xs a i vs → xs[n]? = some d → ∃ v, vs[n]? = some v ∧ Rp W w H r d (some (a, i + n)) v
  | [], _, _, _, _, e => by simp at e
  | x :: xs, i, 0, vs, h, e => by
    simp only [RpL] at h
    obtain ⟨v, s, rfl, q, _⟩ := h
    simp at e; subst e
    exact ⟨v, by simp, q⟩
  | x :: xs, i, n + 1, vs, h, e => by
    simp only [RpL] at h
    obtain ⟨v, s, rfl, _, t⟩ := h
    obtain ⟨v', e1, q1⟩ := RpL.at t (by simpa using e)
    exact ⟨v', by simpa using e1, by rw [show i + (n + 1) = i + 1 + n by omega]; exact q1⟩
theorem findF_at {f : String} : ∀ {ns : List String} {xs : List D} {d : D} {vs : List V}, findF f ns xs = some d → ns.length = vs.length → ∃ n, xs[n]? = some d ∧ (∀ v, vs[n]? = some v → (zipK (ns.map sn) vs).lookup (sn f) = some v) ∧ ∀ y, setF1 f y ns xs = xs.set n y
  | [], _, _, _, h, _ => by simp [findF] at h
  | g :: gs, [], _, _, h, _ => by simp [findF] at h
  | g :: gs, x :: xs, d, [], _, l => by simp at l
  | g :: gs, x :: xs, d, v0 :: vs, h, l => by
    simp only [findF] at h
    by_cases hg : g = f
    · rw [if_pos hg] at h
      cases h
      refine ⟨0, by simp, fun v hv => ?_, fun y => by simp [setF1, hg]⟩
      simp at hv
      subst hv
      rw [hg, List.map_cons, zipK]
      simp [List.lookup]
    · rw [if_neg hg] at h
      obtain ⟨n, e1, e2, e3⟩ := findF_at (vs := vs) h (by simpa using l)
      refine ⟨n + 1, by simpa using e1, fun v hv => ?_, fun y => by simp [setF1, hg, e3]⟩
      have ne : (sn f == sn g) = false := by
        rw [beq_eq_false_iff_ne]; exact fun z => hg (sn_inj z).symm
      rw [List.map_cons, zipK, List.lookup, ne]
      exact e2 v (by simpa using hv)
/-- a row or a table in a field of what stands under a name: one of its places is stored at -/
theorem setC_snd {i : Nat} {f : String} {x : D} {q : String} {ns : List String} {xs ys : List D} {k : Kn} (f0 : Fr w H w2 R1 H2) (s : SRep W w2 H2 σ st) (hx : (st.sl[i]?).join = some x) (hdr : drf st.m x = .node true (.obj q ns) xs) (hf : findF f ns xs = some (.node true k ys)) :
    ∃ a dx fs b, σ[i]? = some (some (.ref a)) ∧ H2 a = some (.ins (W.cls q) dx fs) ∧ q ∈ W.cs ∧ fs.lookup (sn f) = some (.ref b) ∧
      ∀ {d y kd : D} {v u : V} {Rb : Own} {st' : Sg}, setD (.node true k ys) kd d = some y → Rp W (w2.wth R1) H2 (.temp 0) d none v → RpA W w2 Rb H2 kd u → putN i (.node true (.obj q ns) (setF1 f y ns xs)) st = some st' →
        ∀ (Q : Hp → Prop), (∀ w3 H3, Fr w H w3 noR H3 → SRep W w3 H3 σ st' → Q H3) → rSetA (.ref b) u v H2 Q := by
  obtain ⟨r, a, us, ho, es, ha, hH, hO, hL, put⟩ := putN_any s hx hdr
  obtain ⟨dx, hO', l1, l2, hc⟩ := hO
  subst hO'
  obtain ⟨n, e1, e2, e3⟩ := findF_at hf l1
  obtain ⟨cv, ev, qv⟩ := hL.at e1
  rw [Nat.zero_add] at qv
  simp only [Rp] at qv
  obtain ⟨b, vs, hb0, rfl, hb, hHb, hOb, hLb⟩ := qv
  have hba : b ≠ a := fun z => by
    subst z
    rw [ha] at hb
    injection hb with hb
    injection hb with _ hb
    cases hb
  refine ⟨a, dx, _, b, es, hH, hc, e2 _ ev, ?_⟩
  intro d y kd v u Rb st' e hd hk hp Q qq
  refine setD_gen f0 s e hd hk hb hHb hOb hLb (fun {j o'} => RpL.side hb ha (fun x p hx => addR_o hx) hba hLb) (fun {k' xs' vs' o' j} z h1 hkt h2 => ?_) Q qq
  subst z
  obtain ⟨g1, g2, g3, g4⟩ := put_root (o' := o') (own' := addR r b j R1 w2.own) f0 s hb (fun b q p _ hb => addR_o hb) (fun b hb => addR_ne hb) hkt
  refine ⟨_, g1, put g2 g3 g4 ?_ hp⟩
  rw [e3]
  have hy : Rp W ⟨w2.S, addR r b j R1 w2.own, w2.io⟩ (upd H2 b o') r (.node true k' xs') (some (a, n)) (.ref b) := by
    simp only [Rp]
    exact ⟨b, vs', o', rfl, addR_o hb, upd_same, h1, h2⟩
  simp only [Rp]
  exact ⟨a, us, _, rfl, addR_o ha, by rw [upd_ne (Ne.symm hba)]; exact hH, ⟨dx, rfl, l1, l2, hc⟩, RpL.childAt hb ha (fun x p hx => addR_o hx) hy (by omega) ev hL⟩
theorem s_setIF {i : Nat} {m mf : Md} {f : String} {ci e : CE} {oe ie ee : Expr} {p p2 p3 : Pos} (g : Gd W F c X E) (So : Snd W F (.nm i m) E X oe) (Si : Snd W F ci E X ie) (S : PE X ee (semE W F E e)) (hf : f ∈ c.fl) (hpl : plainA oe = true) (hpk : ci.isPk = true) (h1 : noComp ee = true) (hi : plainI ie = true) :
    PS X (.Assign [.Subscript (.Attribute oe (sn f) p3) ie p2] ee p) (semS W F E (.setI (.fld (.nm i m) f mf) ci e)) := by
  refine psW (ps_asg S (pg_sub (pe_fldX (So.n i m rfl) (plainA_base hpl)) (snd_opd Si) (set_any g.un) (assign_sub hi)) (sws1 h1)) fun DD σ H h => ?_
  obtain ⟨w, st, s, h⟩ := h
  have h' : PostS W w H DD E ((ev F e st).ob fun d st => (Rs.of (pk F (.fld (.nm i m) f mf) st) st).ob fun _ st => (opd ci.isPk (pk F ci) (ev F ci) st).ob fun k st => (Rs.of ((pk F (.fld (.nm i m) f mf) st).bind fun x => (setD (drf st.m x) k d).bind fun y => putO (.fld (.nm i m) f mf) y st) st).ob fun st' _ => .nx st') := h
  refine evRead (Fr.refl w H) s (PostR.ofS h') fun v H1 w1 R1 d st1 f1 s1 hv h2 => ?_
  obtain ⟨x0, e0, h3⟩ := PostR.of (PostR.ofS h2)
  have e0' : ((st1.sl[i]?).join.bind fun x => fldD (drf st1.m x) f) = some x0 := e0
  cases ex : (st1.sl[i]?).join with
  | none => rw [ex] at e0'; cases e0'
  | some x =>
    rw [ex] at e0'
    simp only [Option.bind_some] at e0'
    -- the index is read where it lies: nothing changes
    have h3' := h3
    rw [hpk] at h3'
    obtain ⟨kd0, ek0, h40⟩ := PostR.of (PostR.ofS h3')
    obtain ⟨st0, e50, _⟩ := PostR.of (PostR.ofS h40)
    rw [e0] at e50
    simp only [Option.bind_some] at e50
    cases e70 : setD (drf st1.m x0) kd0 d with
    | none => rw [e70] at e50; cases e50
    | some y0 =>
    rw [e70] at e50
    have e5' : ((st1.sl[i]?).join.bind fun x => putF1 i f y0 (drf st1.m x) st1) = some st0 := e50
    rw [ex] at e5'
    simp only [Option.bind_some] at e5'
    obtain ⟨q, ns, xs, k, ys, hdr, hff⟩ : ∃ q ns xs k ys, drf st1.m x = .node true (.obj q ns) xs ∧ findF f ns xs = some (.node true k ys) := by
      unfold putF1 at e5'
      split at e5'
      · rename_i hd
        split at e5'
        · rename_i hd2; exact ⟨_, _, _, _, _, hd, hd2⟩
        · cases e5'
      · cases e5'
    have hx0 : x0 = .node true k ys := by
      rw [hdr] at e0'
      have : findF f ns xs = some x0 := e0'
      rw [hff] at this
      exact (Option.some.inj this).symm
    subst hx0
    obtain ⟨a, dx, fs, b, es, hH, hc, hl, fin⟩ := setC_snd f1 s1 ex hdr hff
    refine ⟨.ref a, es, .inl ⟨a, _, dx, fs, .ref b, rfl, hH, g.cls q hc, g.na q hc f hf, hl, ?_⟩⟩
    refine opd_read f1 s1 (PostR.ofS h3) fun u H2 w2 Rb kd st2 zz f2 s2 hy h4 => ?_
    obtain ⟨rfl, rfl, rfl, rfl, _⟩ := zz hpk
    obtain ⟨st', e5, h5⟩ := PostR.of (PostR.ofS h4)
    rw [e0] at e5
    simp only [Option.bind_some] at e5
    cases e7 : setD (drf st2.m (.node true k ys)) kd d with
    | none => rw [e7] at e5; cases e5
    | some y =>
      rw [e7] at e5
      have e6 : ((st2.sl[i]?).join.bind fun x => putF1 i f y (drf st2.m x) st2) = some st' := e5
      rw [ex] at e6
      simp only [Option.bind_some] at e6
      rw [hdr] at e6
      have hp : putN i (.node true (.obj q ns) (setF1 f y ns xs)) st2 = some st' := by
        unfold putF1 at e6
        simp only [hff] at e6
        exact e6
      exact fin e7 hv hy hp _ fun w3 H3 f3 s3 => h5 w3 σ H3 f3 s3
end
end VS
/-! VS25: comprehensions. -/
namespace VS
open PySem PySem.Spec L2
open PyProof.Rows hiding St
section
variable {W : Wd} {F : Cl} {c : Ck} {X : Cx} {E : L2.WX} {w w1 w2 w0 : Wh} {H H1 H2 H0 : Hp} {R Ra Rb R1 : Own} {σ : L2.St} {st st' : Sg} {Q : VK} {DD : Ends}
/-- within a block -/
theorem Gd.blk {s : Shared} {Hb : Hp} {scope : Scope} {C : Addr} {cl : List (Str × Addr)} {fp : List Addr} (g : Gd W F c X E) : Gd W F { c with sc := relS scope c.sc, cel := false, xs := [], tr := false } (X.blk s Hb scope (compEnvC scope cl C X.env) fp) E0 where
  K := g.K
  sc := by show PySem.relabel scope X.env = relS scope c.sc; rw [relS_eq, g.sc]
  N := g.N
  nd := g.nd
  calm := g.calm
  tk := fun u s' ⟨a, B, sI, pins, σ, H, cls, d, e, I, nb, up, sky, na, os, ag, w⟩ => w.elim
  po := PassesOwn.never
  un := g.un
  grd := g.grd
  fn := fun h => by cases h
  gl := g.gl
  con := g.con
  blt := g.blt
  cls := g.cls
  na := g.na
  cse := g.cse
  tse := g.tse
  tsg := g.tsg
  nax := g.nax
  xae := g.xae
  stk := fun h => by cases h
  clg := g.clg
  isi := g.isi
  cal := fun f hf => by
    obtain ⟨fa, h1, h2, h3⟩ := g.cal f hf
    exact ⟨fa, h1, h2, fun X' E' k tk => h3 X' E' ⟨k.prog, k.w, k.K, k.mg, k.base, k.A⟩ tk⟩
  hot := fun f hf => by
    obtain ⟨fa, h1, h2, h3⟩ := g.hot f hf
    exact ⟨fa, h1, h2, fun X' E' k tk => h3 X' E' ⟨k.prog, k.w, k.K, k.mg, k.base, k.dp, k.un, k.gd⟩ tk⟩
  met := fun k hk m hm f hf => by
    obtain ⟨fa, h1, h3⟩ := g.met k hk m hm f hf
    exact ⟨fa, h1, fun X' E' k tk => h3 X' E' ⟨k.prog, k.w, k.K, k.mg, k.base, k.A⟩ tk⟩
  scm := fun q hq f hf => by
    obtain ⟨C, mc, fa, h1, h2, h4, h5, h3⟩ := g.scm q hq f hf
    exact ⟨C, mc, fa, h1, h2, h4, h5, fun X' E' k tk => h3 X' E' ⟨k.prog, k.w, k.K, k.mg, k.base, k.A⟩ tk⟩
  mak := fun k hk => by
    obtain ⟨h1, h3⟩ := g.mak k hk
    exact ⟨h1, fun X' E' k tk => h3 X' E' ⟨k.prog, k.w, k.K, k.mg, k.base, k.A⟩ tk⟩
  rai := fun k hk => by cases hk
theorem wipeV_len : ∀ {vs : List Nat} {σ : L2.St}, (L2.wipe σ vs).length = σ.length
  | [], _ => rfl
  | v :: vs, σ => by unfold L2.wipe; rw [List.length_set, wipeV_len]
theorem wipeV_out : ∀ {vs : List Nat} {σ : L2.St} {j : Nat}, j ∉ vs → (L2.wipe σ vs)[j]? = σ[j]?
  | [], _, _, _ => rfl
  | v :: vs, σ, j, h => by
    simp only [List.mem_cons, not_or] at h
    unfold L2.wipe
    rw [List.getElem?_set_ne (fun z => h.1 z.symm), wipeV_out h.2]
theorem wipeV_in : ∀ {vs : List Nat} {σ : L2.St} {j : Nat}, j ∈ vs → j < σ.length → (L2.wipe σ vs)[j]? = some none
  | v :: vs, σ, j, h, hl => by
    unfold L2.wipe
    by_cases e : v = j
    · subst e; rw [List.getElem?_set_self (by rw [wipeV_len]; exact hl)]
    · rw [List.getElem?_set_ne e]
      simp only [List.mem_cons] at h
      rcases h with h | h
      · exact absurd h.symm e
      · exact wipeV_in h hl
/-- wiped, alike states are one -/
theorem wipeV_eq {vs is : List Nat} {σ σ2 : L2.St} (a : Alike is (L2.wipe σ vs) σ2) (hi : ∀ j ∈ is, j ∈ vs) : L2.wipe σ2 vs = L2.wipe σ vs := by
  apply List.ext_getElem?
  intro j
  by_cases h : j ∈ vs
  · by_cases hl : j < σ.length
    · have hl2 : j < σ2.length := by rw [a.1, wipeV_len]; exact hl
      rw [wipeV_in h hl, wipeV_in h hl2]
    · rw [List.getElem?_eq_none (by rw [wipeV_len, a.1, wipeV_len]; omega), List.getElem?_eq_none (by rw [wipeV_len]; omega)]
  · rw [wipeV_out h]
    exact a.2 j fun z => h (hi j z)
theorem restore_len : ∀ {own : List Nat} {old sl : List (Option D)}, (restore own old sl).length = sl.length
  | [], _, _ => rfl
  | i :: r, old, sl => by simp [restore, restore_len]
theorem restore_out : ∀ {own : List Nat} {old sl : List (Option D)} {j : Nat}, j ∉ own → (restore own old sl)[j]? = sl[j]?
  | [], _, _, _, _ => rfl
  | i :: r, old, sl, j, h => by
    simp only [List.mem_cons, not_or] at h
    simp only [restore]
    rw [List.getElem?_set_ne (fun z => h.1 z.symm), restore_out h.2]
theorem restore_inv : ∀ {own : List Nat} {old sl : List (Option D)} {j : Nat} {d : D}, (restore own old sl)[j]? = some (some d) → (j ∉ own ∧ sl[j]? = some (some d)) ∨ (j ∈ own ∧ old[j]? = some (some d))
  | [], _, _, _, _, h => .inl ⟨by simp, h⟩
  | i :: r, old, sl, j, d, h => by
    simp only [restore] at h
    rcases set_get h with ⟨e1, e2⟩ | ⟨e1, e2⟩
    · subst e1
      exact .inr ⟨by simp, slot_some e2⟩
    · rcases restore_inv e2 with ⟨a, b⟩ | ⟨a, b⟩
      · exact .inl ⟨by simp only [List.mem_cons, not_or]; exact ⟨fun z => e1 z.symm, a⟩, b⟩
      · exact .inr ⟨by simp [a], b⟩
/-- a place that isn't the state's may be changed -/
theorem SRep.off {a : Addr} {o : HO} (s : SRep W w H σ st) (h1 : w.own a = none) (h2 : w.S a = none) : SRep W w (upd H a o) σ st := by
  have ne : ∀ b t, w.own b = some t → b ≠ a := fun b t h z => by subst z; rw [h1] at h; cases h
  have kp : ∀ r, Kp w w H (upd H a o) r r := fun r => ⟨SLe.refl _, fun _ _ h => h, fun _ _ h => h, fun b q u e h => by rw [upd_ne (ne b _ e)]; exact h⟩
  refine ⟨fun b u h => ?_, fun b t h => ⟨(s.sno b t h).1, by
    obtain ⟨u, e, q⟩ := (s.sno b t h).2
    exact ⟨u, by rw [upd_ne (ne b t h)]; exact e, q⟩⟩, s.iol, fun n d h => ?_, fun i d h => ?_, s.len⟩
  · have z : b ≠ a := fun z => by subst z; rw [h2] at h; cases h
    have hr := s.sle b u h
    unfold RdX Rd at hr ⊢
    rw [upd_ne z]; exact hr
  · obtain ⟨b, e, q⟩ := s.cel n d h
    exact ⟨b, e, Rp.mono (kp _) q⟩
  · obtain ⟨v, e, q⟩ := s.slo i d h
    exact ⟨v, e, Rp.mono (kp _) q⟩
/-- into the block's state -/
theorem SRep.into {own : List Nat} {old : List (Option D)} {m : Mem} {sl : List (Option D)} (s : SRep W w H σ ⟨restore own old sl, m⟩) : SRep W w H (L2.wipe σ own) ⟨wipe own sl, m⟩ := by
  refine ⟨s.sle, s.sno, s.iol, s.cel, fun j d h => ?_, ?_⟩
  · obtain ⟨h1, h2⟩ := wipe_get (show (wipe own sl)[j]? = some (some d) from h)
    obtain ⟨v, e, q⟩ := s.slo j d (show (restore own old sl)[j]? = some (some d) by rw [restore_out h2]; exact h1)
    exact ⟨v, by rw [wipeV_out h2]; exact e, q⟩
  · have := s.len
    show (wipe own sl).length = _
    rw [wipe_len, wipeV_len]
    rw [← this]; exact restore_len.symm
/-- and back -/
theorem SRep.back {own is : List Nat} {old : List (Option D)} {σ2 : L2.St} (s : SRep W w H σ2 st) (a : Alike is (L2.wipe σ own) σ2) (hi : ∀ j ∈ is, j ∈ own)
    (ho : ∀ j d, j ∈ own → old[j]? = some (some d) → ∃ v, σ[j]? = some (some v) ∧ Rp W w H (.slot j) d none v) : SRep W w H σ { st with sl := restore own old st.sl } := by
  refine ⟨s.sle, s.sno, s.iol, s.cel, fun j d h => ?_, ?_⟩
  · rcases restore_inv (show (restore own old st.sl)[j]? = some (some d) from h) with ⟨h1, h2⟩ | ⟨h1, h2⟩
    · obtain ⟨v, e, q⟩ := s.slo j d h2
      rw [a.2 j (fun z => h1 (hi j z)), wipeV_out h1] at e
      exact ⟨v, e, q⟩
    · exact ho j d h1 h2
  · show (restore own old st.sl).length = _
    rw [restore_len, s.len, a.1, wipeV_len]
theorem Fr.updR {a : Addr} {o : HO} (f : Fr w H w1 R1 H1) (hR : R1 a ≠ none) (h1 : w.own a = none) (h2 : H a = none) (hk : ktO o = false := by rfl) : Fr w H w1 R1 (upd H1 a o) := by
  refine ⟨f.S, f.io, f.dom, f.domR, f.Sd, fun x u n h => ?_, fun x h => ?_⟩
  · rw [upd_ne (fun z => by subst z; rw [h2] at h; cases h)]; exact f.keep x u n h
  · refine ⟨(f.R x h).1, (f.R x h).2.1, ?_⟩
    by_cases z : x = a
    · subst z; exact Lv.of upd_same hk
    · obtain ⟨u, e, q⟩ := (f.R x h).2.2
      exact ⟨u, by rw [upd_ne z]; exact e, q⟩
theorem ptsW {X : Cx} {l : List Expr} {t t' : TT} (h : PTs X l t) (k : ∀ σ H Q, t' σ H Q → t σ H Q) : PTs X l t' := ⟨fun pins s σ H Q I q => h.run pins s σ H Q I (k σ H Q q)⟩
/-- the texts of tests -/
def isYes : CE → Bool
  | .cn (.bl true) => true
  | _ => false
/-- the turns of a comprehension -/
def lcF (F : Cl) (elt cond : CE) (tg : Tg) (own : List Nat) : D → Sg → Rs (Option D) := fun x st => (Rs.of (tgD tg x { st with sl := wipe own st.sl }) st).bind fun st' _ => (tst F cond st').bind fun t st => if t then (ev F elt st).bind fun d st => .ok (some d) st else .ok none st
theorem lc_sem {elt cond : CE} {tg : Tg} {ci : CI} {own : List Nat} (hi : ∀ j ∈ tgS tg, j ∈ own) {σ : L2.St} {H : Hp} {Q : VK} (h : semE W F E (.cmpr elt tg ci cond own) σ H Q) :
    tLc (semI W F E ci) (semG W tg) (semT W F E0 cond) (semE W F E0 elt) own σ H Q := by
  obtain ⟨w, st, s, h⟩ := h
  have h' : PostE W w H σ Q E ((itD F ci st).bind fun xs st => if ownOk own st.sl then (lcL (lcF F elt cond tg own) xs [] st).bind fun ds st' => .ok (.lst true ds) { st' with sl := restore own st.sl st'.sl } else .bad) := h
  refine ⟨w, st, s, ?_⟩
  have h1 := PostR.ofE h'
  revert h1
  cases itD F ci st with
  | bad => exact fun h1 => h1
  | ex x st1 => exact fun h1 => h1
  | ok xs st1 =>
    intro h1 w1 H1 J f1 s1 src D hD
    have h2 : PostE W w H σ Q E (if ownOk own st1.sl then (lcL (lcF F elt cond tg own) xs [] st1).bind fun ds st' => .ok (.lst true ds) { st' with sl := restore own st1.sl st'.sl } else .bad) := h1
    by_cases hok : ownOk own st1.sl = true
    · rw [if_pos hok] at h2
      have nD : w1.own D = none := by
        cases e : w1.own D with
        | none => rfl
        | some t => exact absurd hD (s1.sno D t e).2.ne
      -- what stood under the own names
      have olds : ∀ {w2 : Wh} {R2 : Own} {H2 : Hp}, Fr w1 H1 w2 R2 H2 → ∀ j d, j ∈ own → st1.sl[j]? = some (some d) → ∃ v, σ[j]? = some (some v) ∧ Rp W w2 H2 (.slot j) d none v := by
        intro w2 R2 H2 f j d hj hd
        obtain ⟨v, e, q⟩ := s1.slo j d hd
        have al : d.al = true := by
          have := List.all_eq_true.mp hok j hj
          rw [hd] at this
          exact this
        exact ⟨v, e, Rp.alw (w := w1) (w' := w2) (fun h => h.mono f.S) f.io al q⟩
      refine ⟨fun i m H' => m = xs.length - i ∧ i ≤ xs.length ∧ ∃ w' R' acc accV st', Fr w1 H1 w' R' H' ∧ SRep W w' H' σ { st' with sl := restore own st1.sl st'.sl } ∧ R' D = some (.temp 0, none) ∧ H' D = some (.lst accV) ∧ RpL W (w'.wth R') H' (.temp 0) acc D 0 accV ∧
          PostE W w H σ Q E ((lcL (lcF F elt cond tg own) (xs.drop i) acc st').bind fun ds st' => .ok (.lst true ds) { st' with sl := restore own st1.sl st'.sl }),
        ⟨xs.length, by simp, Nat.zero_le _, w1, one D, [], [], st1, (Fr.refl w1 H1).new s1 hD, ?_, one_same D, upd_same, by simp only [RpL], h2⟩, ?_⟩
      · have s0 := s1.laid (o := .lst []) hD
        refine ⟨s0.sle, s0.sno, s0.iol, s0.cel, fun j d hj => ?_, ?_⟩
        · rcases restore_inv (show (restore own st1.sl st1.sl)[j]? = some (some d) from hj) with ⟨_, q⟩ | ⟨_, q⟩
          · exact s0.slo j d q
          · exact s0.slo j d q
        · show (restore own st1.sl st1.sl).length = _
          rw [restore_len]; exact s0.len
      · rintro i m H' ⟨rfl, hle, w', R', acc, accV, st', f', s', hRD, hHD, hL, h3⟩
        by_cases hlt : i < xs.length
        · refine .inr ⟨src.goes f' s'.sle hlt, fun H4 => ∃ w' R' acc accV st', Fr w1 H1 w' R' H4 ∧ SRep W w' H4 σ { st' with sl := restore own st1.sl st'.sl } ∧ R' D = some (.temp 0, none) ∧ H4 D = some (.lst accV) ∧ RpL W (w'.wth R') H4 (.temp 0) acc D 0 accV ∧
              PostE W w H σ Q E ((lcL (lcF F elt cond tg own) (xs.drop (i + 1)) acc st').bind fun ds st' => .ok (.lst true ds) { st' with sl := restore own st1.sl st'.sl }), fun H4 q => ⟨xs.length - (i + 1), by omega, rfl, hlt, q⟩, fun x H3 y => ?_⟩
          have ed : xs.drop i = xs[i] :: xs.drop (i + 1) := List.drop_eq_getElem_cons hlt
          rw [ed] at h3
          have sb := SRep.into (own := own) (old := st1.sl) (sl := st'.sl) (m := st'.m) s'
          obtain ⟨w3, f3, s3, q3⟩ := src.yields f' sb (List.getElem?_eq_getElem hlt) y
          have h4 : PostE W w H σ Q E (((lcF F elt cond tg own xs[i] st').nox.bind fun o st => match o with
            | some d => if acc.length < LN then lcL (lcF F elt cond tg own) (xs.drop (i + 1)) (acc ++ [d]) st else .bad
            | none => lcL (lcF F elt cond tg own) (xs.drop (i + 1)) acc st).bind fun ds st' => .ok (.lst true ds) { st' with sl := restore own st1.sl st'.sl }) := h3
          cases e : tgD tg xs[i] { st' with sl := wipe own st'.sl } with
          | none =>
            exfalso
            unfold lcF at h4
            rw [e] at h4; exact h4
          | some st2 =>
            refine ⟨w3, noR, w3, H3, _, xs[i], st2, Fr.refl _ _, s3, Rp.of_sh (w := w3.wth noR) q3, e, fun w4 σ2 f4 s4 a4 => ⟨wipeV_eq a4 hi, ?_⟩⟩
            -- the frame of what is held
            have keepD : ∀ {w6 : Wh} {R6 : Own} {H6 : Hp}, Fr w' H' w6 R6 H6 → H6 D = some (.lst accV) := fun b => b.keep D _ (f'.R D (by rw [hRD]; simp)).1 hHD
            have fr34 : Fr w' H' w4 noR H3 := (f3.trans f4).noR
            cases et : tst F cond st2 with
            | bad => exfalso; unfold lcF at h4; rw [e] at h4; simp only [Rs.of, Rs.bind, et] at h4; exact h4
            | ex x5 st5 => exfalso; unfold lcF at h4; rw [e] at h4; simp only [Rs.of, Rs.bind, et] at h4; exact h4
            | ok k st3 =>
              refine ⟨w4, st2, s4, ?_⟩
              rw [et]
              intro w5 H5 f5 s5
              have fr5 : Fr w' H' w5 noR H5 := (fr34.trans f5).noR
              cases k with
              | false =>
                rw [if_neg Bool.false_ne_true]
                have h5 : PostE W w H σ Q E ((lcL (lcF F elt cond tg own) (xs.drop (i + 1)) acc st3).bind fun ds st' => .ok (.lst true ds) { st' with sl := restore own st1.sl st'.sl }) := by
                  unfold lcF at h4; rw [e] at h4; simp only [Rs.of, Rs.bind, et, Bool.false_eq_true, if_false] at h4; exact h4
                refine ⟨w5, R', acc, accV, st3, (f'.trans fr5).less fun x hx => ?_, SRep.back s5 a4 hi (olds (f'.trans fr5)), hRD, keepD fr5, ?_, h5⟩
                · unfold ownU
                  cases hx2 : R' x with
                  | none => exact absurd hx2 hx
                  | some t => simp
                · exact RpL.mono (w := w'.wth R') (w' := w5.wth R') ⟨fr5.S, fr5.io, fun _ _ q => q, fun x p u q e => fr5.keep x u (f'.R x (by rw [show R' x = _ from q]; simp)).1 e⟩ hL
              | true =>
                rw [if_pos rfl]
                cases ee : ev F elt st3 with
                | bad => exfalso; unfold lcF at h4; rw [e] at h4; simp only [Rs.of, Rs.bind, et, if_true, ee] at h4; exact h4
                | ex x5 st5 => exfalso; unfold lcF at h4; rw [e] at h4; simp only [Rs.of, Rs.bind, et, if_true, ee] at h4; exact h4
                | ok d st4 =>
                  refine ⟨w5, st3, s5, ?_⟩
                  rw [ee]
                  intro w6 R6 H6 v f6 s6 hv
                  have h5 : PostE W w H σ Q E ((if acc.length < LN then lcL (lcF F elt cond tg own) (xs.drop (i + 1)) (acc ++ [d]) st4 else .bad).bind fun ds st' => .ok (.lst true ds) { st' with sl := restore own st1.sl st'.sl }) := by
                    unfold lcF at h4; rw [e] at h4; simp only [Rs.of, Rs.bind, et, if_true, ee] at h4; exact h4
                  by_cases hl : acc.length < LN
                  · rw [if_pos hl] at h5
                    have b6 : Fr w' H' w6 R6 H6 := (fr5.trans f6).less fun x hx => by
                      unfold ownU; exact hx
                    have t6 := f'.trans b6
                    have apart := f'.apart b6
                    refine ⟨accV, keepD b6, by rw [← hL.len, ← LN_eq]; exact hl, w6, addR (.temp 0) D acc.length R6 R', acc ++ [d], accV ++ [v], st4, ?_, ?_, addR_o hRD, upd_same, ?_, h5⟩
                    · refine Fr.updR ((t6.less fun x hx => ?_)) (by rw [addR_o hRD]; simp) nD hD
                      unfold ownU
                      rcases addR_ne hx with q | q
                      · cases hx2 : R' x with
                        | none => exact absurd hx2 q
                        | some t => simp
                      · cases hx2 : R' x with
                        | none => exact q
                        | some t => simp
                    · have z := t6.R D (by unfold ownU; rw [hRD]; simp)
                      exact (SRep.back s6 a4 hi (olds t6)).off z.1 z.2.1
                    · refine RpL.snoc ?_ ?_
                      · refine RpL.mv (w := w'.wth R') (w' := w6.wth (addR (.temp 0) D acc.length R6 R')) ⟨b6.S, b6.io, fun x p q => addR_o q, fun x p u q e => ?_⟩ hL
                        have q' : R' x = some (.temp 0, some p) := q
                        rw [upd_ne (fun z => by subst z; rw [hRD] at q'; cases q')]
                        exact b6.keep x u (f'.R x (by rw [q']; simp)).1 e
                      · rw [Nat.zero_add]
                        have nx : ∀ x t, R6 x = some t → R' x = none := fun x t q => apart x (by rw [q]; simp)
                        have nd : ∀ x t, R6 x = some t → x ≠ D := fun x t q z => by subst z; rw [nx _ _ q] at hRD; cases hRD
                        refine Rp.child (w := w6.wth R6) (w' := w6.wth (addR (.temp 0) D acc.length R6 R')) (r := .temp 0) (q := (D, acc.length)) ⟨SLe.refl _, fun _ _ h => h, fun x p q => ?_, fun x p u q e => ?_⟩ (fun x q => ?_) (fun x u q e => ?_) hv
                        · have q' : R6 x = some (.temp 0, some p) := q
                          show addR (.temp 0) D acc.length R6 R' x = _
                          unfold addR; rw [nx x _ q', q']
                        · rw [upd_ne (nd x _ q)]; exact e
                        · have q' : R6 x = some (.temp 0, none) := q
                          show addR (.temp 0) D acc.length R6 R' x = _
                          unfold addR; rw [nx x _ q', q']
                        · rw [upd_ne (nd x _ q)]; exact e
                  · rw [if_neg hl] at h5; exact h5.elim
        · have e : i = xs.length := by omega
          subst e
          rw [List.drop_length] at h3
          have h4 : PostE W w H σ Q E (.ok (.lst true acc) { st' with sl := restore own st1.sl st'.sl }) := h3
          refine .inl ⟨src.stops f' s'.sle, h4 w' R' H' (.ref D) ((f1.trans f').less fun x hx => by unfold ownU; exact hx) s' ?_⟩
          simp only [Rp]
          exact ⟨D, accV, _, rfl, hRD, hHD, rfl, hL⟩
    · rw [if_neg hok] at h2; exact h2.elim
end
end VS
/-! VS25b: dict displays. -/
namespace VS
open PySem PySem.Spec L2
open PyProof.Rows hiding St
def semEV (W : Wd) (E : L2.WX) (v : EV) : TE := fun σ H Q => ∃ w st, SRep W w H σ st ∧ PostE W w H σ Q E (v.v st)
/-- each of a row of expressions is told -/
def EachP (W : Wd) (E : L2.WX) (X : Cx) : List EV → List Expr → Prop
  | [], [] => True
  | v :: r, e :: es => PE X e (semEV W E v) ∧ EachP W E X r es
  | _, _ => False
section
variable {W : Wd} {F : Cl} {c : Ck} {X : Cx} {E : L2.WX} {w w1 w2 w0 : Wh} {H H1 H2 H0 : Hp} {R Ra Rb R1 : Own} {σ : L2.St} {st st' : Sg} {Q : VK}
theorem evRead' {a : EV} {good : D → Sg → Prop} {K : VK} (fr : Fr w H w1 Ra H1) (s : SRep W w1 H1 σ st) (h : PostR W w H E good (a.v st))
    (k : ∀ y H2 w2 Rb db st2, Fr w1 H1 w2 Rb H2 → SRep W w2 H2 σ st2 → Rp W (w2.wth Rb) H2 (.temp 0) db none y → good db st2 → K y H2) : semEV W E a σ H1 K := by
  refine ⟨w1, st, s, ?_⟩
  have := PostR.stepE (σ := σ) fr h
  revert this
  cases a.v st with
  | ok d st2 =>
    intro this w2 Rb H2 v f2 s2 h2
    obtain ⟨w3, Rc, d3, st3, e3, f3, s3, h3, q3⟩ := this w2 Rb H2 v f2 s2 h2
    cases e3
    exact k v H2 w2 Rb d st2 f2 s2 h2 q3
  | ex x st2 => exact fun this => this
  | bad => exact fun this => this
/-- the readings of the pairs -/
def trsOf (W : Wd) (E : L2.WX) : List EV → List EV → List (TE × TE)
  | k :: ks, v :: vs => (semEV W E k, semEV W E v) :: trsOf W E ks vs
  | _, _ => []
theorem pps_of {pos : Pos} : ∀ {ks vs : List EV} {ke ve : List Expr}, ke.length = ve.length → EachP W E X ks ke → EachP W E X vs ve → PPs X pos (ke.map some) ve (trsOf W E ks vs)
  | [], [], [], [], _, _, _ => pps_nil
  | k :: ks, v :: vs, e :: es, f :: fs, h, h1, h2 => pps_cons h1.1 h2.1 (pps_of (by simpa using h) h1.2 h2.2)
  | [], _, _ :: _, _, _, h1, _ => h1.elim
  | _ :: _, _, [], _, _, h1, _ => h1.elim
  | _, [], _, _ :: _, _, _, h2 => h2.elim
  | _, _ :: _, _, [], _, _, h2 => h2.elim
  | [], _ :: _, [], _ :: _, h, _, _ => by simp at h
  | _ :: _, [], _ :: _, [], h, _, _ => by simp at h
/-- the keys' values, whatever the state -/
def KeyVs : List D → List V → Prop
  | [], vs => vs = []
  | d :: ds, vs => ∃ v s, vs = v :: s ∧ (∀ k, keyA d = some k → v = kV (keyK k)) ∧ KeyVs ds s
theorem keyVs : ∀ {ds : List D} {vs : List V} {ks : List KA}, KeyVs ds vs → keyAs ds = some ks → vs = (ks.map keyK).map kV
  | [], vs, ks, h, e => by simp only [keyAs, Option.some.injEq] at e; subst e; simpa only [KeyVs, List.map_nil] using h
  | d :: ds, vs, ks, h, e => by
    simp only [KeyVs] at h
    obtain ⟨v, s, rfl, q, t⟩ := h
    simp only [keyAs] at e
    cases ek : keyA d with
    | none => rw [ek] at e; cases e
    | some k =>
      rw [ek] at e
      simp only [Option.bind_some] at e
      cases er : keyAs ds with
      | none => rw [er] at e; cases e
      | some r =>
        rw [er] at e
        simp only [Option.bind_some, Option.some.injEq] at e
        subst e
        rw [q k ek, keyVs t er]; rfl
theorem pairs_snd : ∀ {ks vs : List EV} {j : Nat} {w1 : Wh} {Ra : Own} {H1 : Hp} {st : Sg} {good : List D × List D → Sg → Prop} {K : List (V × V) → Hp → Prop}, Fr w H w1 Ra H1 → SRep W w1 H1 σ st → PostR W w H E good (pairE ks vs st) →
    (∀ ps H2 w2 Rb kd vd st2, Fr w1 H1 w2 Rb H2 → SRep W w2 H2 σ st2 → KeyVs kd (ps.map (·.1)) → RpT W (w2.wth Rb) H2 j vd (ps.map (·.2)) → good (kd, vd) st2 → K ps H2) → tPairs (trsOf W E ks vs) σ H1 K
  | [], [], j, w1, Ra, H1, st, good, K, fr, s, h, k => k [] H1 w1 noR [] [] st (Fr.refl _ _) s (by simp only [KeyVs, List.map_nil]) (by simp only [RpT, List.map_nil]) h
  | a :: ks, b :: vs, j, w1, Ra, H1, st, good, K, fr, s, h, k => by
    have h' : PostR W w H E good ((a.v st).bind fun a st => (b.v st).bind fun b st => (pairE ks vs st).bind fun p st => .ok (a :: p.1, b :: p.2) st) := h
    show semEV W E a σ H1 fun x H2 => semEV W E b σ H2 fun y H3 => tPairs (trsOf W E ks vs) σ H3 fun ps H4 => K ((x, y) :: ps) H4
    refine evRead' fr s (PostR.bind h') fun x H2 w2 Rb d st2 f2 s2 hx h2 => ?_
    refine evRead' (fr.trans f2) s2 (PostR.bind h2) fun y H3 w3 Rc e st3 f3 s3 hy h3 => ?_
    have f23 : Fr w1 H1 w3 Rc H3 := (f2.trans f3).less fun z hz => by
      unfold ownU
      cases hb : Rb z with
      | none => exact hz
      | some t => simp
    refine pairs_snd (j := j + 1) ((fr.trans f2).trans f3) s3 (PostR.bind h3) fun ps H4 w4 Rd kd vd st4 f4 s4 hk hv h4 => ?_
    have f3' := f23.ren (tj j)
    refine k ((x, y) :: ps) H4 w4 (ownU (ren (tj j) Rc) Rd) (d :: kd) (e :: vd) st4 (f3'.trans f4) s4 ?_ ?_ h4
    · simp only [KeyVs, List.map_cons]
      exact ⟨x, _, rfl, fun q hq => keyA_rep hq (RpA.held (R := Rb) hx), hk⟩
    · simp only [RpT, List.map_cons]
      refine ⟨y, _, rfl, ?_, Fr.rightT f3' f4 hv⟩
      have := held_ren (w := w3) (H := H3) (tj j) hy
      have e0 : tj j (.temp 0) = .temp j := by unfold tj; simp
      rw [e0] at this
      exact held_left (f3'.held f4 this)
  | [], _ :: _, _, _, _, _, _, _, _, _, _, h, _ => h.elim
  | _ :: _, [], _, _, _, _, _, _, _, _, _, h, _ => h.elim
theorem under_rep2 {p : Addr} {o : HO} (ne : ∀ a t, R1 a = some t → a ≠ p) : ∀ {ds : List D} {j : Nat} {vs : List V}, RpT W (w1.wth R1) H1 j ds vs → RpL W (w1.wth (under p R1)) (upd H1 p o) (.temp 0) ds p j vs
  | [], _, _, h => by simpa only [RpL, RpT] using h
  | d :: ds, j, vs, h => by
    simp only [RpT] at h
    obtain ⟨v, s, e, q, t⟩ := h
    simp only [RpL]
    refine ⟨v, s, e, ?_, under_rep2 ne t⟩
    refine Rp.child (w := w1.wth R1) (w' := w1.wth (under p R1)) (r := .temp j) (q := (p, j)) ⟨SLe.refl _, fun _ _ h => h, fun a q h => ?_, fun a q u h e => by rw [upd_ne (ne a _ h)]; exact e⟩ (fun a h => ?_) (fun a u h e => by rw [upd_ne (ne a _ h)]; exact e) q
    · have h' : R1 a = some (.temp j, some q) := h
      show under p R1 a = _
      unfold under
      rw [if_neg (ne a _ h'), h']
    · have h' : R1 a = some (.temp j, none) := h
      show under p R1 a = _
      unfold under
      rw [if_neg (ne a _ h'), h']
theorem merge_new : ∀ {more acc : List (Key × V)}, ((acc ++ more).map (·.1)).Nodup → mergeK acc more = acc ++ more
  | [], acc, _ => by simp [mergeK]
  | p :: r, acc, h => by
    have e : L2.putK acc p.1 p.2 = acc ++ [p] := by
      unfold L2.putK
      rw [if_neg]
      intro q
      obtain ⟨x, hx, hq⟩ := List.any_eq_true.mp q
      have hq' : x.1 = p.1 := by simpa using hq
      rw [List.map_append, List.nodup_append] at h
      exact h.2.2 x.1 (List.mem_map_of_mem hx) p.1 (by simp) hq'
    show mergeK (L2.putK acc p.1 p.2) r = _
    rw [e, merge_new (by simpa using h)]
    simp
theorem zipK_keys {α : Type} : ∀ {ks : List α} {vs : List V}, ks.length = vs.length → (zipK ks vs).map (·.1) = ks
  | [], vs, h => by cases vs with | nil => rfl | cons => simp at h
  | k :: ks, [], h => by simp at h
  | k :: ks, v :: vs, h => by simp only [zipK, List.map_cons]; rw [zipK_keys (by simpa using h)]
theorem zipK_kv : ∀ {ps : List (V × V)} {ks : List Key}, ps.map (·.1) = ks.map kV → ps = (zipK ks (ps.map (·.2))).map fun kv => (kV kv.1, kv.2)
  | [], ks, h => by cases ks with | nil => rfl | cons => simp at h
  | p :: ps, [], h => by simp at h
  | p :: ps, k :: ks, h => by
    simp only [List.map_cons, List.cons.injEq] at h
    simp only [List.map_cons, zipK]
    rw [← zipK_kv h.2, ← h.1]
theorem snd_dct {ks vs : CEs} {ke ve : List Expr} {p : Pos} (g : Gd W F c X E) (h1 : EachP W E X (evL F ks) ke) (h2 : EachP W E X (evL F vs) ve) (hl : ke.length = ve.length) (h15 : ke.length ≤ 15) (h0 : ke ≠ []) : Snd W F (.dct false ks vs) E X (.Dict (ke.map some) ve p) := by
  have hv : PE X (.Dict (ke.map some) ve p) (semE W F E (.dct false ks vs)) := peW (pe_disp (pps_of hl h1 h2) (by simp) (by simpa using hl) (by simpa using h0) (by simpa using h15)) fun σ H Q h => by
    obtain ⟨w, st, s, h⟩ := h
    have h' : PostE W w H σ Q E ((pairE (evL F ks) (evL F vs) st).bind fun p st => if false then (if p.1.length = 0 ∧ p.2.length = 0 then .ok (.dT true [] []) st else .bad)
      else (Rs.of (keyAs p.1) st).bind fun k st => if k.length ≤ 15 ∧ k.length = p.2.length ∧ k.Nodup then .ok (.dK true k p.2) st else .bad) := h
    intro a ha
    have fn := (Fr.refl w H).new (o := .dK []) s ha
    have na : w.own a = none := by
      cases e : w.own a with
      | none => rfl
      | some t => exact absurd ha (s.sno a t e).2.ne
    refine pairs_snd (j := 0) fn (s.laid ha) (PostR.ofE h') fun ps H2 w2 Rb kd vd st2 f2 s2 hk hv h3 => ?_
    have hH : H2 a = some (.dK []) := f2.keep a _ na upd_same
    refine ⟨hH, ?_⟩
    simp only [if_false, Bool.false_eq_true] at h3
    obtain ⟨k, ek, h4⟩ := PostR.of (PostR.ofE h3)
    split at h4
    · rename_i hc
      obtain ⟨c1, c2, c3⟩ := hc
      have hkeys := keyVs hk ek
      have lv := hv.len
      have lk : (k.map keyK).length = (ps.map (·.2)).length := by rw [List.length_map, c2, lv]
      have hnd : (k.map keyK).Nodup := by
        exact List.pairwise_map.mpr (List.Pairwise.imp (fun h e => h (keyK_inj e)) c3)
      refine ⟨zipK (k.map keyK) (ps.map (·.2)), zipK_kv hkeys, by rw [zipK_len lk, ← lv, ← c2]; exact c1, ?_⟩
      rw [merge_new (acc := []) (by rw [List.nil_append, zipK_keys lk]; exact hnd), List.nil_append]
      have ft := fn.trans f2
      have ap := fn.apart f2
      have ne : ∀ b t, Rb b = some t → b ≠ a := fun b t hb z => by
        subst z
        have := ap b (by rw [hb]; simp)
        rw [one_same] at this; cases this
      have fu : Fr w H w2 (under a Rb) H2 := ft.less fun x hx => by
        rcases under_ne hx with z | z
        · subst z
          unfold ownU
          rw [one_same]; simp
        · unfold ownU
          cases e : one a x with
          | none => exact z
          | some t => simp
      have hR : under a Rb a = some (.temp 0, none) := by unfold under; rw [if_pos rfl]
      have z := fu.R a (by rw [hR]; simp)
      refine h4 w2 (under a Rb) _ (.ref a) (fu.updR (by rw [hR]; simp) na ha) (s2.off z.1 z.2.1) ?_
      simp only [Rp]
      exact ⟨a, ps.map (·.2), _, rfl, hR, upd_same, ⟨rfl, by simpa using lk, c3⟩, under_rep2 ne hv⟩
    · exact h4.elim
  exact ⟨hv, PT.of_v g hv rfl fun _ => rfl, (fun z => by cases z), (fun _ _ z => by cases z), rfl⟩
theorem snd_dct0 {t : Bool} {p : Pos} (g : Gd W F c X E) : Snd W F (.dct t .nil .nil) E X (.Dict [] [] p) := by
  have hv : PE X (.Dict [] [] p) (semE W F E (.dct t .nil .nil)) := by
    cases t with
    | false =>
      refine peW pe_dnewK fun σ H Q h => ?_
      obtain ⟨w, st, s, h⟩ := h
      have h' : PostE W w H σ Q E (if (0 : Nat) ≤ 15 ∧ (0 : Nat) = 0 ∧ ([] : List KA).Nodup then .ok (.dK true [] []) st else .bad) := h
      rw [if_pos ⟨by omega, rfl, List.Pairwise.nil⟩] at h'
      exact h'.new (Fr.refl w H) s (xs := []) (vs := []) (by simp only [RpSL]) ⟨rfl, rfl, List.Pairwise.nil⟩
    | true =>
      refine peW pe_dnewT fun σ H Q h => ?_
      obtain ⟨w, st, s, h⟩ := h
      have h' : PostE W w H σ Q E (.ok (.dT true [] []) st) := h
      exact h'.new (Fr.refl w H) s (xs := []) (vs := []) (by simp only [RpSL]) ⟨rfl, rfl, List.Pairwise.nil⟩
  exact ⟨hv, PT.of_v g hv rfl fun _ => rfl, (fun z => by cases z), (fun _ _ z => by cases z), rfl⟩
end
/-- a dict's text, all keys told -/
def unSome : List (Option Expr) → Option (List Expr)
  | [] => some []
  | some e :: r => (unSome r).map (e :: ·)
  | none :: _ => none
theorem unSome_eq : ∀ {l : List (Option Expr)} {r : List Expr}, unSome l = some r → l = r.map some
  | [], r, h => by simp only [unSome, Option.some.injEq] at h; subst h; rfl
  | some e :: l, r, h => by
    simp only [unSome] at h
    cases e2 : unSome l with
    | none => rw [e2] at h; cases h
    | some r2 => rw [e2] at h; simp only [Option.map_some, Option.some.injEq] at h; subst h; rw [unSome_eq e2]; rfl
  | none :: _, r, h => by simp [unSome] at h
def vDict : Expr → Option (List Expr × List Expr)
  | .Dict ks vs _ => (unSome ks).map fun k => (k, vs)
  | _ => none
theorem vDict_eq {e : Expr} {ks vs : List Expr} (h : vDict e = some (ks, vs)) : ∃ p, e = .Dict (ks.map some) vs p := by
  cases e <;> simp [vDict] at h
  obtain ⟨k, h1, rfl, rfl⟩ := h
  rw [unSome_eq h1]; exact ⟨_, rfl⟩
end VS
/-! VS25c: things of classes made, methods, functions read off a class. -/
namespace VS
open PySem PySem.Spec L2
open PyProof.Rows hiding St
section
variable {W : Wd} {F : Cl} {c : Ck} {X : Cx} {E : L2.WX} {w w1 w2 : Wh} {H H1 H2 : Hp} {R Ra Rb : Own} {σ : L2.St} {st : Sg} {Q : VK}
/-- C(e, ..) -/
theorem snd_mak {k : String} {es : CEs} {x : Str} {l : List Expr} {p q : Pos} (g : Gd W F c X E) (hx : x = sn k) (hf : k ∈ c.cs) (hg : glB c.sc x = true) (hd : dbB x = false) (S : SndL W F es E X l) :
    Snd W F (.mak k es) E X (.Call (.Name x p) l [] q) := by
  subst hx
  obtain ⟨hk, hc⟩ := g.mak k hf
  have hm := g.clg k hf
  simp only [dbB, Bool.or_eq_false_iff] at hd
  have hgl : Gl X (sn k) := by show X.env.scope.names.lookup (sn k) = _; rw [g.sc]; exact of_decide_eq_true hg
  have main : ∀ (pins : List (Addr × Obj)) (s1 : Shared) (σ : L2.St) (H1 : Hp) (Q : VK) (vs : List V) (us : List Value) (w : Wh) (H : Hp) (w2 : Wh) (Rb : Own) (ds : List D) (st2 : Sg), Inv X pins σ H1 s1 → Vals vs us → Fr w H w2 Rb H1 → SRep W w2 H1 σ st2 → RpT W (w2.wth Rb) H1 0 ds vs →
      PostE W w H σ Q E ((mkR F k ds st2.m).rs st2) → wpAny (model X.prog X.w) X.A (call (.ref (W.cls k)) us) (EP X pins σ Q) X.xe s1 := fun pins s1 σ H1 Q vs us w H w2 Rb ds st2 I1 r f2 s2 h2 q2 =>
    hc X E (Kin.refl X) g.tk pins s1 σ H1 vs us Q I1 r ⟨w, H, w2, Rb, ds, st2, f2, s2, h2, q2⟩
  have hv : PE X (.Call (.Name (sn k) p) l [] q) (semE W F E (.mak k es)) := by
    refine ⟨fun pins s σ H Q I h => ?_⟩
    obtain ⟨w, st, sr, h⟩ := h
    have h' : PostE W w H σ Q E ((evv F es st).bind fun ds st => (mkR F k ds st.m).rs st) := h
    refine wpAny_Call_Name_kw (ld_glob I hgl hm ?_ hd.1.1)
    have ha := (S.v 0).run q pins s σ H (fun vs H1 => ∃ w2 Rb ds st2, Fr w H w2 Rb H1 ∧ SRep W w2 H1 σ st2 ∧ RpT W (w2.wth Rb) H1 0 ds vs ∧ PostE W w H σ Q E ((mkR F k ds st2.m).rs st2)) I ⟨w, st, sr, by
      have := PostR.stepL (σ := σ) (j := 0) (Fr.refl w H) (PostR.ofE h')
      revert this
      cases evv F es st with
      | ok ds st2 =>
        intro this w2 Rb H2 vs f2 s2 h2
        obtain ⟨w2', Rb', ds', st2', e2, _, _, _, q2⟩ := this w2 Rb H2 vs f2 s2 h2
        cases e2
        exact ⟨w2, Rb, ds, st2, f2, s2, h2, q2⟩
      | ex x st2 => exact fun this => this
      | bad => exact fun this => this⟩
    cases l with
    | nil =>
      refine PySem.W.callWith_K0 I.kIn hk ?_
      have ha2 : ∃ w2 Rb ds st2, Fr w H w2 Rb H ∧ SRep W w2 H σ st2 ∧ RpT W (w2.wth Rb) H 0 ds [] ∧ PostE W w H σ Q E ((mkR F k ds st2.m).rs st2) := by
        have hl := S.len
        cases es with
        | nil => exact ⟨w, noR, [], st, Fr.refl w H, sr, by simp only [RpT], h'⟩
        | cons a r => simp [CEs.len] at hl
      obtain ⟨w2, Rb, ds, st2, f2, s2, h2, q2⟩ := ha2
      exact main pins s σ H Q [] [] w H w2 Rb ds st2 I .nil f2 s2 h2 q2
    | cons e0 l0 =>
      have hns := S.ns
      simp only [List.all_cons, Bool.and_eq_true] at hns
      refine PySem.W.callWith_K (h₀ := X.base) I.ok.mod.kin hk (thn ha fun us s1 hh => ?_) (starEach_cons hns.1) (plain_star hns.2)
      obtain ⟨vs, H1, I1, r, w2, Rb, ds, st2, f2, s2, h2, q2⟩ := hh
      exact ⟨I1.kIn, main pins s1 σ H1 Q vs us w H w2 Rb ds st2 I1 r f2 s2 h2 q2⟩
  exact ⟨hv, PT.of_v g hv rfl fun _ => rfl, (fun z => by cases z), (fun _ _ z => by cases z), rfl⟩
/-- a method's call is read so -/
def metOk (o : Expr) (m : Str) (l : List Expr) (ap p : Pos) : Prop := True
/-- a thing of a class, as it lies -/
theorem cls_rep {m : String} {d : D} {k : String} {x : V} (h : clsD m d = some k) (s : SRep W w H σ st) (hx : RpA W w R H d x) : ∃ a dx fs, x = .ref a ∧ H a = some (.ins (W.cls k) dx fs) ∧ k ∈ W.cs ∧ fs.lookup (sn m) = none := by
  cases d with
  | node o kn xs =>
    cases kn with
    | obj k2 ns =>
      simp only [clsD] at h
      split at h
      · cases h
      · rename_i hn
        cases h
        obtain ⟨a, vs, rfl, ⟨ho, hr, hm⟩, la⟩ := hx.node s.sle
        obtain ⟨dx, rfl, hl, _, hc⟩ := hm
        refine ⟨a, dx, _, rfl, hr.2 rfl, hc, ?_⟩
        have key : ∀ (ns : List String) (vs : List V), m ∉ ns → List.lookup (sn m) (zipK (ns.map sn) vs) = none := by
          intro ns
          induction ns with
          | nil => intro vs _; rfl
          | cons n ns ih =>
            intro vs hn
            cases vs with
            | nil => rfl
            | cons v vs =>
              simp only [List.mem_cons, not_or] at hn
              have ne : (sn m == sn n) = false := by
                rw [beq_eq_false_iff_ne]; exact fun z => hn.1 (sn_inj z)
              rw [List.map_cons, zipK, List.lookup, ne]
              exact ih vs hn.2
        exact key ns vs hn
    | _ => simp [clsD] at h
  | _ => simp [clsD] at h
/-- the things ahead are held on -/
theorem RpT.consA {d : D} {v : V} {ds : List D} {vs : List V} (h1 : Rp W (w.wth R) H (.temp 0) d none v) (h2 : RpT W (w.wth R) H 1 ds vs) : RpT W (w.wth R) H 0 (d :: ds) (v :: vs) := by
  simp only [RpT]
  exact ⟨v, vs, rfl, h1, h2⟩
theorem snd_met {o : CE} {m : String} {es : CEs} {eo : Expr} {l : List Expr} {ap p : Pos} (g : Gd W F c X E) (So : Snd W F o E X eo) (hm : m ∈ c.ms) (S : SndL W F es E X l)
    (hc : ∃ pl : Sem Bool, eval (.Call (.Attribute eo (sn m) ap) l [] p) X.env = (do
      let ov ← eval eo X.env
      standAt ap.atName
      let (f, first) ← holding [ov] (getMethod ov (sn m) pl)
      callWith p f first (backTo p (starEach l X.env)) (backToKw p (keywordEach [] X.env)))) :
    Snd W F (.met o m es) E X (.Call (.Attribute eo (sn m) ap) l [] p) := by
  obtain ⟨pl, hc⟩ := hc
  have hv : PE X (.Call (.Attribute eo (sn m) ap) l [] p) (semE W F E (.met o m es)) := by
    refine ⟨fun pins s σ H Q I h => ?_⟩
    obtain ⟨w, st, sr, h⟩ := h
    have h' : PostE W w H σ Q E ((ev F o st).bind fun x st => (Rs.of (clsD m (drf st.m x)) st).bind fun c st => (Rs.of (F.meth c m) st).bind fun f st => (evv F es st).bind fun ds st => (F.fn false f (x :: ds) st.m).rs st) := h
    have ho := So.v.run pins s σ H (fun x H1 => ∃ w1 Ra dx st1, Fr w H w1 Ra H1 ∧ SRep W w1 H1 σ st1 ∧ Rp W (w1.wth Ra) H1 (.temp 0) dx none x ∧
        PostE W w H σ Q E ((Rs.of (clsD m (drf st1.m dx)) st1).bind fun c st => (Rs.of (F.meth c m) st).bind fun f st => (evv F es st).bind fun ds st => (F.fn false f (dx :: ds) st.m).rs st)) I ⟨w, st, sr, by
      have := PostE.step (Fr.refl w H) h'
      revert this
      cases ev F o st with
      | ok d st2 =>
        intro this w2 Rb H2 v f2 s2 h2
        obtain ⟨w2', Rb', d', st2', e2, f3, s3, h3, q3⟩ := this w2 Rb H2 v f2 s2 h2
        cases e2
        exact ⟨w2, Rb, d, st2, f2, s2, h2, q3⟩
      | ex x st2 => exact fun this => this
      | bad => exact fun this => this⟩
    refine PySem.W.methodCall_KW (pl := pl) (thn ho fun u s1 hh => ?_) hc
    obtain ⟨x, H1, I1, rx, w1, Ra, dx, st1, f1, s1', h1, q1⟩ := hh
    obtain ⟨k, ek, q2⟩ := PostR.of (PostR.ofE q1)
    obtain ⟨f, ef, q3⟩ := PostR.of (PostR.ofE q2)
    obtain ⟨a, ax, fs, rfl, ea, hk, hl⟩ := cls_rep ek s1' (RpA.drf s1' (RpA.held h1))
    obtain rfl : u = Value.ref a := rx
    obtain ⟨fa, hme, hca⟩ := g.met k hk m hm f ef
    refine getmeth_ok I1 ea (g.cls k hk) hme hl ?_
    have main : ∀ (s2 : Shared) (H2 : Hp) (vs : List V) (us : List Value) (w2 : Wh) (Rb : Own) (ds : List D) (st2 : Sg), Inv X pins σ H2 s2 → Vals vs us → Fr w1 H1 w2 Rb H2 → SRep W w2 H2 σ st2 → RpT W (w2.wth Rb) H2 1 ds vs →
        PostE W w H σ Q E ((F.fn false f (dx :: ds) st2.m).rs st2) → wpAny (model X.prog X.w) X.A (call (.ref fa) (.ref a :: us)) (EP X pins σ Q) X.xe s2 := fun s2 H2 vs us w2 Rb ds st2 I2 r f2 sr2 h2 q4 => by
      refine hca X E (Kin.refl X) g.tk pins s2 σ H2 (.ref a :: vs) (.ref a :: us) Q I2 (.cons rfl r) ⟨w, H, w2, ownU Ra Rb, dx :: ds, st2, f1.trans f2, sr2, ?_, q4⟩
      refine RpT.consA (held_left (f1.held f2 h1)) ?_
      exact Fr.rightT f1 f2 h2
    have ha := (S.v 1).run p pins s1 σ H1 (fun vs H2 => ∃ w2 Rb ds st2, Fr w1 H1 w2 Rb H2 ∧ SRep W w2 H2 σ st2 ∧ RpT W (w2.wth Rb) H2 1 ds vs ∧ PostE W w H σ Q E ((F.fn false f (dx :: ds) st2.m).rs st2)) I1 ⟨w1, st1, s1', by
      have := PostR.stepL (σ := σ) (j := 1) f1 (PostR.ofE q3)
      revert this
      cases evv F es st1 with
      | ok ds st2 =>
        intro this w2 Rb H2 vs f2 s2 h2
        obtain ⟨w2', Rb', ds', st2', e2, _, _, _, q4⟩ := this w2 Rb H2 vs f2 s2 h2
        cases e2
        exact ⟨w2, Rb, ds, st2, f2, s2, h2, q4⟩
      | ex x st2 => exact fun this => this
      | bad => exact fun this => this⟩
    cases l with
    | nil =>
      refine PySem.W.callWith_K0 (first := [.ref a]) I1.kIn hme.kp ?_
      have hl := S.len
      cases es with
      | nil => exact main s1 H1 [] [] w1 noR [] st1 I1 .nil (Fr.refl w1 H1) s1' (by simp only [RpT]) q3
      | cons a r => simp [CEs.len] at hl
    | cons e0 l0 =>
      have hns := S.ns
      simp only [List.all_cons, Bool.and_eq_true] at hns
      refine PySem.W.callWith_K (first := [.ref a]) (h₀ := X.base) I1.ok.mod.kin hme.kp (thn ha fun us s2 hh => ?_) (starEach_cons hns.1) (plain_star hns.2)
      obtain ⟨vs, H2, I2, r, w2, Rb, ds, st2, f2, s2', h2, q4⟩ := hh
      exact ⟨I2.kIn, main s2 H2 vs us w2 Rb ds st2 I2 r f2 s2' h2 q4⟩
  exact ⟨hv, PT.of_v g hv rfl fun _ => rfl, (fun z => by cases z), (fun _ _ z => by cases z), rfl⟩
theorem met_eval {o : Expr} {m : Str} {l : List Expr} {ap p : Pos} {env : Env} (hb : plainA o = true) (hl : l.all noStar = true) (hn : l.length < 30) (hline : (ap.endLine == p.line) = true) :
    ∃ pl : Sem Bool, eval (.Call (.Attribute o m ap) l [] p) env = (do
      let ov ← eval o env
      standAt ap.atName
      let (f, first) ← holding [ov] (getMethod ov m pl)
      callWith p f first (backTo p (starEach l env)) (backToKw p (keywordEach [] env))) := by
  refine ⟨(do return (← importBound o env).getD true), ?_⟩
  have h1 : (backTo p (starEach l env)).all (fun x => !x.1) = true := by
    have := plain_star (pos := p) (env := env) hl
    rw [List.all_eq_true]
    intro x hx
    rw [List.any_eq_false] at this
    simpa using this x hx
  have hlen : (backTo p (starEach l env)).length = l.length := by
    have : ∀ (l : List Expr), l.all noStar = true → (starEach l env).length = l.length := by
      intro l
      induction l with
      | nil => intro _; rfl
      | cons e r ih =>
        intro h
        simp only [List.all_cons, Bool.and_eq_true] at h
        rw [starEach_cons h.1, List.length_cons, List.length_cons, ih h.2]
    unfold backTo
    rw [List.length_map, this l hl]
  have hform : methodCallForm (l.length + ([] : List Keyword).length) (backTo p (starEach l env)) (backToKw p (keywordEach [] env)) = true := by
    unfold methodCallForm
    rw [h1]
    have e : backToKw p (keywordEach [] env) = [] := rfl
    rw [e]
    simp
    omega
  have hpos : methodCallPos true o env ap p = pure p := by unfold methodCallPos; simp [hline]
  rw [arm_eval_Call, plainA_base hb]
  unfold methodCall
  rw [hform, hpos]
  unfold calleeOf
  simp only [if_true, pure_bind]
/-- C.m(e, ..), m a function of C -/
theorem snd_scm {k m : String} {es : CEs} {l : List Expr} {p1 ap p : Pos} (g : Gd W F c X E) (hq : (k, m) ∈ c.sm) (hg : glB c.sc (sn k) = true) (hd : dbB (sn k) = false) (S : SndL W F es E X l)
    (hc : ∃ pl : Sem Bool, eval (.Call (.Attribute (.Name (sn k) p1) (sn m) ap) l [] p) X.env = (do
      let ov ← eval (.Name (sn k) p1) X.env
      standAt ap.atName
      let (f, first) ← holding [ov] (getMethod ov (sn m) pl)
      callWith p f first (backTo p (starEach l X.env)) (backToKw p (keywordEach [] X.env)))) :
    Snd W F (.scm k m es) E X (.Call (.Attribute (.Name (sn k) p1) (sn m) ap) l [] p) := by
  obtain ⟨pl, hc⟩ := hc
  simp only [dbB, Bool.or_eq_false_iff] at hd
  have hgl : Gl X (sn k) := by show X.env.scope.names.lookup (sn k) = _; rw [g.sc]; exact of_decide_eq_true hg
  have hv : PE X (.Call (.Attribute (.Name (sn k) p1) (sn m) ap) l [] p) (semE W F E (.scm k m es)) := by
    refine ⟨fun pins s σ H Q I h => ?_⟩
    obtain ⟨w, st, sr, h⟩ := h
    have h' : PostE W w H σ Q E ((Rs.of (F.meth k m) st).bind fun f st => (evv F es st).bind fun ds st => (F.fn false f ds st.m).rs st) := h
    obtain ⟨f, ef, q1⟩ := PostR.of (PostR.ofE h')
    obtain ⟨C, mc, fa, hm, hr, hat, hk, hca⟩ := g.scm (k, m) hq f ef
    refine PySem.W.methodCall_KW (pl := pl) (ld_glob I hgl hm ?_ hd.1.1) hc
    refine PySem.W.method_cls I.kIn hr.ga (PySem.W.cls_value I.kIn hr.rd hat rfl ?_)
    have I0 := I.tok (s.toks + 1)
    have main : ∀ (s1 : Shared) (H1 : Hp) (vs : List V) (us : List Value) (w2 : Wh) (Rb : Own) (ds : List D) (st2 : Sg), Inv X pins σ H1 s1 → Vals vs us → Fr w H w2 Rb H1 → SRep W w2 H1 σ st2 → RpT W (w2.wth Rb) H1 0 ds vs →
        PostE W w H σ Q E ((F.fn false f ds st2.m).rs st2) → wpAny (model X.prog X.w) X.A (call (.ref fa) us) (EP X pins σ Q) X.xe s1 := fun s1 H1 vs us w2 Rb ds st2 I1 r f2 s2 h2 q2 =>
      hca X E (Kin.refl X) g.tk pins s1 σ H1 vs us Q I1 r ⟨w, H, w2, Rb, ds, st2, f2, s2, h2, q2⟩
    have ha := (S.v 0).run p pins { s with toks := s.toks + 1 } σ H (fun vs H1 => ∃ w2 Rb ds st2, Fr w H w2 Rb H1 ∧ SRep W w2 H1 σ st2 ∧ RpT W (w2.wth Rb) H1 0 ds vs ∧ PostE W w H σ Q E ((F.fn false f ds st2.m).rs st2)) I0 ⟨w, st, sr, by
      have := PostR.stepL (σ := σ) (j := 0) (Fr.refl w H) (PostR.ofE q1)
      revert this
      cases evv F es st with
      | ok ds st2 =>
        intro this w2 Rb H2 vs f2 s2 h2
        obtain ⟨w2', Rb', ds', st2', e2, _, _, _, q2⟩ := this w2 Rb H2 vs f2 s2 h2
        cases e2
        exact ⟨w2, Rb, ds, st2, f2, s2, h2, q2⟩
      | ex x st2 => exact fun this => this
      | bad => exact fun this => this⟩
    cases l with
    | nil =>
      refine PySem.W.callWith_K0 (first := []) I0.kIn hk ?_
      have hl := S.len
      cases es with
      | nil => exact main _ H [] [] w noR [] st I0 .nil (Fr.refl w H) sr (by simp only [RpT]) q1
      | cons a r => simp [CEs.len] at hl
    | cons e0 l0 =>
      have hns := S.ns
      simp only [List.all_cons, Bool.and_eq_true] at hns
      refine PySem.W.callWith_K (first := []) (h₀ := X.base) I0.ok.mod.kin hk (thn ha fun us s2 hh => ?_) (starEach_cons hns.1) (plain_star hns.2)
      obtain ⟨vs, H2, I2, r, w2, Rb, ds, st2, f2, s2', h2, q4⟩ := hh
      exact ⟨I2.kIn, main s2 H2 vs us w2 Rb ds st2 I2 r f2 s2' h2 q4⟩
  exact ⟨hv, PT.of_v g hv rfl fun _ => rfl, (fun z => by cases z), (fun _ _ z => by cases z), rfl⟩
end
end VS
/-! VS25d: slices. -/
namespace VS
open PySem PySem.Spec L2
open PyProof.Rows hiding St
section
variable {W : Wd} {F : Cl} {c : Ck} {X : Cx} {E : L2.WX} {w w1 w2 w3 : Wh} {H H1 H2 H3 : Hp} {R Ra Rb Rc : Own} {σ : L2.St} {st : Sg} {Q : VK}
def partD : D → Option Int → Prop
  | .non, o => o = none
  | .int i, o => o = some i
  | _, _ => False
/-- a slice's bound -/
structure SndB (W : Wd) (F : Cl) (lo : CE) (E : L2.WX) (X : Cx) (e : Option Expr) : Prop where
  r : ∃ t, PO X e t ∧ ∀ {w w1 : Wh} {H H1 : Hp} {Ra : Own} {σ : L2.St} {st : Sg} {good : D → Sg → Prop} {K : Option Int → Hp → Prop}, Fr w H w1 Ra H1 → SRep W w1 H1 σ st → PostR W w H E good (bdR (isAbs lo) (opd lo.isPk (pk F lo) (ev F lo)) st) →
    (∀ o d H2 w2 st2, Fr w1 H1 w2 noR H2 → SRep W w2 H2 σ st2 → partD d o → good d st2 → K o H2) → t σ H1 K
theorem sndB_none : SndB W F (.cn .non) E X none := by
  refine ⟨_, po_none, ?_⟩
  intro w w1 H H1 Ra σ st good K fr s h k
  exact k none .non H1 w1 st (Fr.refl w1 H1) s rfl h
theorem sndB_some {lo : CE} {e : Expr} (hn : isAbs lo = false) (S : Snd W F lo E X e) : SndB W F lo E X (some e) := by
  refine ⟨_, po_some (snd_opd S), ?_⟩
  intro w w1 H H1 Ra σ st good K fr s h k
  unfold bdR at h
  rw [hn, if_neg Bool.false_ne_true] at h
  refine opd_read fr s (PostR.bind h) fun y H2 w2 Rb db st2 _ f2 s2 hy h2 => ?_
  obtain ⟨d, e1, h3⟩ := PostR.of h2
  cases db with
  | int i =>
    cases e1
    exact ⟨i, hy.int, k (some i) (.int i) H2 w2 st2 f2.noR s2 rfl h3⟩
  | _ => cases e1
theorem cut_eq {α : Type} (xs : List α) (lo hi : Nat) : cut xs lo hi = (xs.drop lo).take (hi - lo) := by
  unfold cut
  rw [List.drop_take]
theorem clamp_part {n : Nat} {dd : Int} {d : D} {o : Option Int} {l : Nat} (hd : 0 ≤ dd) (p : partD d o) (h : clampI n dd d = some l) : HT.sIx n dd.toNat o = l := by
  cases d with
  | non => cases p; simp only [clampI, Option.some.injEq] at h; rw [← h]; rfl
  | int i => cases p; simp only [clampI, Option.some.injEq] at h; rw [← h]; rfl
  | _ => cases p
theorem RpAL.take : ∀ {xs : List D} {vs : List V} {n : Nat}, RpAL W w R H xs vs → RpAL W w R H (xs.take n) (vs.take n)
  | [], vs, n, h => by simp only [RpAL] at h; subst h; simp [RpAL]
  | x :: xs, vs, 0, h => by simp [RpAL]
  | x :: xs, vs, n + 1, h => by
    simp only [RpAL] at h
    obtain ⟨v, s, rfl, q, t⟩ := h
    simp only [List.take_succ_cons, RpAL]
    exact ⟨v, _, rfl, q, RpAL.take t⟩
theorem RpAL.drop : ∀ {xs : List D} {vs : List V} {n : Nat}, RpAL W w R H xs vs → RpAL W w R H (xs.drop n) (vs.drop n)
  | [], vs, n, h => by simp only [RpAL] at h; subst h; simp [RpAL]
  | x :: xs, vs, 0, h => by simpa using h
  | x :: xs, vs, n + 1, h => by
    simp only [RpAL] at h
    obtain ⟨v, s, rfl, q, t⟩ := h
    simp only [List.drop_succ_cons]
    exact RpAL.drop t
theorem shL_take : ∀ {xs : List D} {n : Nat}, D.shL xs = true → D.shL (xs.take n) = true
  | [], n, _ => by simp [D.shL]
  | x :: xs, 0, _ => by simp [D.shL]
  | x :: xs, n + 1, h => by
    simp only [D.shL, Bool.and_eq_true] at h
    simp only [List.take_succ_cons, D.shL, Bool.and_eq_true]
    exact ⟨h.1, shL_take h.2⟩
theorem shL_drop : ∀ {xs : List D} {n : Nat}, D.shL xs = true → D.shL (xs.drop n) = true
  | [], n, _ => by simp [D.shL]
  | x :: xs, 0, h => by simpa using h
  | x :: xs, n + 1, h => by
    simp only [D.shL, Bool.and_eq_true] at h
    simp only [List.drop_succ_cons]
    exact shL_drop h.2
def rSl (X : Cx) : V → Option Int → Option Int → Hp → VK → Prop := fun x lo hi H Q => rSlL X.K x lo hi H Q ∨ rSlA X.K x lo hi H Q ∨ rSlS x lo hi H Q
theorem sl_all : SlR X (rSl X) := (sl_list (X := X)).or ((sl_tupA (X := X)).or (sl_str (X := X)))
theorem slc_snd {da dl dh d : D} {x : V} {ol oh : Option Int} (hk : X.K = W.K) (h : slcD da dl dh = some d) (pl : partD dl ol) (ph : partD dh oh) (hx : RpA W w1 R H1 da x) (hq : PostE W w H σ Q E (.ok d st)) (fr : Fr w H w1 Ra H1) (s : SRep W w1 H1 σ st) : rSl X x ol oh H1 Q := by
  cases da with
  | node o kn xs =>
    obtain ⟨a, vs, rfl, ra, la⟩ := hx.node s.sle
    have hl := la.len
    have cutR : ∀ {l hh : Nat}, D.shL xs = true → clampI xs.length 0 dl = some l → clampI xs.length xs.length dh = some hh → RpSL W w1.S (cut xs l hh) (cutV vs ol oh) ∧ HT.sIx vs.length 0 ol = l ∧ HT.sIx vs.length vs.length oh = hh := by
      intro l hh hs e1 e2
      have q1 : HT.sIx vs.length 0 ol = l := by
        have := clamp_part (n := xs.length) (dd := 0) (Int.le_refl 0) pl e1
        rw [← hl]; exact this
      have q2 : HT.sIx vs.length vs.length oh = hh := by
        have := clamp_part (n := xs.length) (dd := (xs.length : Int)) (by omega) ph e2
        rw [← hl]; simpa using this
      refine ⟨?_, q1, q2⟩
      unfold cutV
      rw [cut_eq, q1, q2]
      exact RpAL.sh (shL_take (shL_drop hs)) (RpAL.take (RpAL.drop la))
    cases kn with
    | lst =>
      simp only [slcD] at h
      cases e1 : clampI xs.length 0 dl with
      | none => rw [e1] at h; cases h
      | some l =>
        cases e2 : clampI xs.length xs.length dh with
        | none => rw [e1, e2] at h; cases h
        | some hh =>
          rw [e1, e2] at h
          simp only [Option.bind_some] at h
          split at h
          · rename_i hs
            cases h
            exact .inl ⟨a, vs, rfl, ra.list, hq.new fr s (cutR hs e1 e2).1 rfl⟩
          · cases h
    | slst =>
      simp only [slcD] at h
      cases e1 : clampI xs.length 0 dl with
      | none => rw [e1] at h; cases h
      | some l =>
        cases e2 : clampI xs.length xs.length dh with
        | none => rw [e1, e2] at h; cases h
        | some hh =>
          rw [e1, e2] at h
          simp only [Option.bind_some] at h
          split at h
          · rename_i hs
            cases h
            exact .inl ⟨a, vs, rfl, ra.slist, hq.new fr s (cutR hs e1 e2).1 rfl⟩
          · cases h
    | tup =>
      cases o with
      | true => simp [slcD] at h
      | false =>
        simp only [slcD] at h
        cases e1 : clampI xs.length 0 dl with
        | none => rw [e1] at h; cases h
        | some l =>
          cases e2 : clampI xs.length xs.length dh with
          | none => rw [e1, e2] at h; cases h
          | some hh =>
            rw [e1, e2] at h
            simp only [Option.bind_some] at h
            split at h
            · rename_i hs
              cases h
              obtain ⟨q0, q1, q2⟩ := cutR hs e1 e2
              refine .inr (.inl ⟨a, vs, rfl, ra.tup, fun z => ?_, fun _ => hq.newS fr s q0 rfl⟩)
              have e3 : cut xs l hh = xs := by
                rw [cut_eq, ← q1, ← q2, z.1, z.2]
                simp only [List.drop_zero, Nat.sub_zero]
                exact List.take_of_length_le (by omega)
              rw [e3] at hq
              exact hq.shd fr s (RpA.sh (R := R) (by simp only [D.sh, Bool.not_false, Bool.true_and]; exact hs) hx)
            · cases h
    | dK ks => simp [slcD] at h
    | dT ks => simp [slcD] at h
    | obj q ns => simp [slcD] at h
    | exc q => simp [slcD] at h
    | xd ns => simp [slcD] at h
  | str z =>
    simp only [slcD] at h
    cases e1 : clampI z.length 0 dl with
    | none => rw [e1] at h; cases h
    | some l =>
      cases e2 : clampI z.length z.length dh with
      | none => rw [e1, e2] at h; cases h
      | some hh =>
        rw [e1, e2] at h
        simp only [Option.bind_some] at h
        split at h
        · rename_i hs
          cases h
          have q1 : HT.sIx z.length 0 ol = l := clamp_part (n := z.length) (dd := 0) (Int.le_refl 0) pl e1
          have q2 : HT.sIx z.length z.length oh = hh := by
            have := clamp_part (n := z.length) (dd := (z.length : Int)) (by omega) ph e2
            simpa using this
          refine .inr (.inr ⟨cps z, hx.str, by rw [cps_len, ← LN_eq]; exact hs, ?_⟩)
          have e3 : cutS (cps z) ol oh = cps (cut z l hh) := by
            unfold cutS
            rw [cps_len, q1, q2, cut_eq]
          rw [e3]
          exact hq.scal fr s (rpS_str _)
        · cases h
  | _ => simp [slcD] at h
theorem snd_slc {a lo hi : CE} {ea : Expr} {el eh : Option Expr} {p2 p : Pos} (g : Gd W F c X E) (Sa : Snd W F a E X ea) (Sl : SndB W F lo E X el) (Sh : SndB W F hi E X eh) : Snd W F (.slc a lo hi) E X (.Subscript ea (.Slice el eh none p2) p) := by
  obtain ⟨tl, pl, rl⟩ := Sl.r
  obtain ⟨th, ph, rh⟩ := Sh.r
  have hv : PE X (.Subscript ea (.Slice el eh none p2) p) (semE W F E (.slc a lo hi)) := by
    by_cases hn : a.isNm = true
    · obtain ⟨i, m, rfl⟩ : ∃ i m, a = .nm i m := by
        cases a <;> simp [CE.isNm] at hn
        exact ⟨_, _, rfl⟩
      refine peW (pe_slice sl_all (Sa.n i m rfl) pl ph) fun σ H Q h => ?_
      obtain ⟨w, st, s, h⟩ := h
      have h' := PostR.ofE (r := two (CE.nm i m).isNm (pk F (.nm i m)) (evx F (.nm i m)).v (fun st => (bdR (isAbs lo) (opd lo.isPk (pk F lo) (evx F lo).v) st).bind fun l st => (bdR (isAbs hi) (opd hi.isPk (pk F hi) (evx F hi).v) st).bind fun h st => .ok (.tup true [l, h]) st) st) h
      rw [hn] at h'
      unfold two at h'
      rw [if_pos rfl] at h'
      obtain ⟨d0, e0, h2⟩ := PostR.of (PostR.bind h')
      have e0' : (st.sl[i]?).join = some d0 := e0
      obtain ⟨x, ex, _⟩ := s.slo i d0 (slot_some e0')
      refine ⟨x, ex, ?_⟩
      have h3 := PostR.bind (PostR.bind h2)
      refine rl (Fr.refl w H) s h3 fun ol dl H1 w1 st1 f1 s1 p1 h4 => ?_
      have h5 := PostR.bind h4
      refine rh f1 s1 h5 fun oh dh H2 w2 st2 f2 s2 p2' h6 => ?_
      obtain ⟨d1, e1, h7⟩ := PostR.of (PostR.bind h6)
      have e1' : (st2.sl[i]?).join = some d1 := e1
      obtain ⟨x2, ex2, q2⟩ := s2.slo i d1 (slot_some e1')
      rw [ex] at ex2
      cases ex2
      obtain ⟨d, e2, h8⟩ := PostE.of h7
      exact slc_snd g.K e2 p1 p2' (RpA.drf s2 (RpA.of (R := noR) q2)) h8 (f1.trans f2) s2
    · refine peW (pe_slice sl_all Sa.v pl ph) fun σ H Q h => ?_
      obtain ⟨w, st, s, h⟩ := h
      have hn' : a.isNm = false := by simpa using hn
      have h' := PostR.ofE (r := two a.isNm (pk F a) (evx F a).v (fun st => (bdR (isAbs lo) (opd lo.isPk (pk F lo) (evx F lo).v) st).bind fun l st => (bdR (isAbs hi) (opd hi.isPk (pk F hi) (evx F hi).v) st).bind fun h st => .ok (.tup true [l, h]) st) st) h
      rw [hn'] at h'
      unfold two at h'
      rw [if_neg Bool.false_ne_true] at h'
      refine evRead (Fr.refl w H) s (PostR.bind h') fun x H1 w1 Ra da st1 f1 s1 hx h2 => ?_
      have h3 := PostR.bind (PostR.bind h2)
      refine rl f1 s1 h3 fun ol dl H2 w2 st2 f2 s2 p1 h4 => ?_
      have h5 := PostR.bind h4
      refine rh (f1.trans f2) s2 h5 fun oh dh H3 w3 st3 f3 s3 p2' h6 => ?_
      obtain ⟨d, e2, h8⟩ := PostE.of (o := slcD (drf st3.m da) dl dh) h6
      have hx3 : Rp W (w3.wth Ra) H3 (.temp 0) da none x := (f1.held (f2.trans f3) hx)
      exact slc_snd g.K e2 p1 p2' (RpA.drf s3 (RpA.held hx3)) h8 (f1.trans (f2.trans f3)) s3
  exact ⟨hv, PT.of_v g hv rfl fun _ => rfl, (fun z => by cases z), (fun _ _ z => by cases z), rfl⟩
end
end VS
/-! VS25e: built-in methods that change nothing, of one argument. -/
namespace VS
open PySem PySem.Spec L2
open PyProof.Rows hiding St
section
variable {W : Wd} {F : Cl} {c : Ck} {X : Cx} {E : L2.WX} {w w1 w2 w3 : Wh} {H H1 H2 H3 : Hp} {R Ra Rb Rc : Own} {σ : L2.St} {st : Sg} {Q : VK}
def tOpM (T : V → Hp → Prop) (r : L2.R2) (ta tb : TE) : TE := fun σ H Q => ta σ H fun x H1 => T x H1 ∧ tb σ H1 fun y H2 => r x y H2 Q
/-- two operands, something being known of the first one as soon as it is there -/
theorem two_sndM {a b : CE} {ea eb : Expr} (bm : Bmt) (g : Gd W F c X E) (Sa : Snd W F a E X ea) (Sb : Snd W F b E X eb) :
    ∃ ta tb, PE X ea ta ∧ PE X eb tb ∧ ∀ (T : V → Hp → Prop) (r : L2.R2) (σ : L2.St) (H : Hp) (Q : VK) (w : Wh) (st : Sg) (good : D × D → Sg → Prop), SRep W w H σ st →
      PostR W w H E good (two (a.isNm || (a.isPk && b.isPk)) (fun st => (pk F a st).bind (rcvO bm st.m)) (fun st => (ev F a st).bind fun x st => Rs.of (rcvO bm st.m x) st) (opd b.isPk (pk F b) (ev F b)) st) →
      (∀ (H : Hp) (w : Wh) (R : Own) (st : Sg) (d : D) (x : V), SRep W w H σ st → RpA W w R H d x → rcv bm d = true → T x H) →
      (∀ x y H2 w2 Rb da db st2, Fr w H w2 Rb H2 → SRep W w2 H2 σ st2 → RpA W w2 Rb H2 da x → RpA W w2 Rb H2 db y → good (da, db) st2 → r x y H2 Q) → tOpM T r ta tb σ H Q := by
  have rk : ∀ {m : Mem} {d x : D}, rcvO bm m d = some x → x = d ∧ rcv bm (drf m d) = true := by
    intro m d x h
    unfold rcvO at h
    split at h
    · cases h; exact ⟨rfl, by assumption⟩
    · cases h
  have rkb : ∀ {m : Mem} {o : Option D} {x : D}, o.bind (rcvO bm m) = some x → o = some x ∧ rcv bm (drf m x) = true := by
    intro m o x h
    cases o with
    | none => cases h
    | some d => obtain ⟨rfl, h2⟩ := rk h; exact ⟨rfl, h2⟩
  by_cases hn : a.isNm = true
  · obtain ⟨i, m, rfl⟩ : ∃ i m, a = .nm i m := by
      cases a <;> simp [CE.isNm] at hn
      exact ⟨_, _, rfl⟩
    refine ⟨_, _, Sa.n i m rfl, snd_opd Sb, ?_⟩
    intro T r σ H Q w st good s h kT k
    rw [hn, Bool.true_or] at h
    unfold two at h
    rw [if_pos rfl] at h
    obtain ⟨d0, e0, h⟩ := PostR.of (PostR.bind h)
    obtain ⟨e0', k0⟩ := rkb e0
    have e0'' : (st.sl[i]?).join = some d0 := e0'
    obtain ⟨x, ex, q0⟩ := s.slo i d0 (slot_some e0'')
    refine ⟨x, ex, kT H w noR st _ x s (RpA.drf s (RpA.of q0)) k0, ?_⟩
    refine opd_read (Fr.refl w H) s (PostR.bind h) fun y H2 w2 Rb db st2 _ f2 s2 hy h2 => ?_
    obtain ⟨d1, e1, h2⟩ := PostR.of (PostR.bind h2)
    obtain ⟨e1', _⟩ := rkb e1
    have e1'' : (st2.sl[i]?).join = some d1 := e1'
    obtain ⟨x2, ex2, q2⟩ := s2.slo i d1 (slot_some e1'')
    rw [ex] at ex2
    cases ex2
    exact k x y H2 w2 Rb d1 db st2 f2 s2 (RpA.of q2) hy h2
  · by_cases hp : (a.isPk && b.isPk) = true
    · have hp' := Bool.and_eq_true_iff.mp hp
      refine ⟨_, _, Sa.p hp'.1, snd_opd Sb, ?_⟩
      intro T r σ H Q w st good s h kT k
      rw [hp, Bool.or_true] at h
      unfold two at h
      rw [if_pos rfl] at h
      obtain ⟨d0, e0, h⟩ := PostR.of (PostR.bind h)
      obtain ⟨e0', k0⟩ := rkb e0
      refine ⟨w, st, d0, s, e0', fun x hx => ⟨kT H w noR st _ x s (RpA.drf s hx) k0, ?_⟩⟩
      refine opd_read (Fr.refl w H) s (PostR.bind h) fun y H2 w2 Rb db st2 z f2 s2 hy h2 => ?_
      obtain ⟨rfl, rfl, rfl, rfl, _⟩ := z hp'.2
      obtain ⟨d1, e1, h2⟩ := PostR.of (PostR.bind h2)
      rw [e0] at e1
      cases e1
      exact k x y H2 w2 noR d0 db st2 f2 s2 hx hy h2
    · refine ⟨_, _, Sa.v, snd_opd Sb, ?_⟩
      intro T r σ H Q w st good s h kT k
      have e1 : a.isNm = false := by simpa using hn
      have e2 : (a.isPk && b.isPk) = false := by simpa using hp
      rw [e1, e2, Bool.false_or] at h
      unfold two at h
      rw [if_neg Bool.false_ne_true] at h
      refine evRead (Fr.refl w H) s (PostR.bind (PostR.bind h)) fun x H1 w1 Ra da st1 f1 s1 hx h2 => ?_
      obtain ⟨d0, e0, h3⟩ := PostR.of h2
      obtain ⟨rfl, k0⟩ := rk e0
      refine ⟨kT H1 w1 Ra st1 _ x s1 (RpA.drf s1 (RpA.held hx)) k0, ?_⟩
      refine opd_read f1 s1 (PostR.bind h3) fun y H2 w2 Rb db st2 _ f2 s2 hy h4 => ?_
      exact k x y H2 w2 (ownU Ra Rb) d0 db st2 (f1.trans f2) s2 (RpA.left f1 f2 hx) (RpA.rightA f1 f2 hy) h4
/-- what such a method is to give, by data -/
def BmOk (W : Wd) (b : Bmt) (r : V → List V → Hp → VK → Prop) : Prop :=
  ∀ {w w1 : Wh} {H H1 : Hp} {R R1 : Own} {σ : L2.St} {st : Sg} {Q : VK} {E : L2.WX} {da db d : D} {x y : V}, bmtD b [da, db] = some d → RpA W w1 R H1 da x → RpA W w1 R H1 db y → PostE W w H σ Q E (.ok d st) → Fr w H w1 R1 H1 → SRep W w1 H1 σ st → r x [y] H1 Q
theorem strs_repE : ∀ {xs : List D} {vs : List V} {ss : List (List Nat)}, RpAL W w R H xs vs → strs? xs = some ss → vs = (ss.map cps).map V.str
  | [], vs, ss, h, e => by
    simp only [RpAL] at h
    simp only [strs?, Option.some.injEq] at e
    subst h e; rfl
  | x :: xs, vs, ss, h, e => by
    simp only [RpAL] at h
    obtain ⟨v, s, rfl, q, t⟩ := h
    cases x with
    | str l =>
      simp only [strs?] at e
      cases e2 : strs? xs with
      | none => rw [e2] at e; cases e
      | some r =>
        rw [e2] at e
        cases e
        rw [strs_repE t e2, q.str]; rfl
    | _ => simp [strs?] at e
theorem join_cps (a : List Nat) : ∀ (ss : List (List Nat)), Txt.join (cps a) (ss.map cps) = cps (joinL a ss) := by
  intro ss
  rw [show Txt.join (cps a) (ss.map cps) = Str.join (cps a) (ss.map cps) from PySem.StrLaws.glued_eq_join _ _]
  induction ss with
  | nil => rfl
  | cons x r ih =>
    cases r with
    | nil => rfl
    | cons y r =>
      show cps x ++ cps a ++ Str.join (cps a) (cps y :: r.map cps) = cps (x ++ a ++ joinL a (y :: r))
      have ih' : Str.join (cps a) (cps y :: r.map cps) = cps (joinL a (y :: r)) := ih
      rw [ih', cps_append, cps_append]
theorem lenSum_cps (ss : List (List Nat)) : ((ss.map cps).map (·.length)).sum = lenSum ss := by
  induction ss with
  | nil => rfl
  | cons x r ih => simp only [List.map_cons, List.sum_cons, lenSum, cps_len, ih]
/-- a thing frozen as it is made -/
theorem snd_fz {a : CE} {ea : Expr} (g : Gd W F c X E) (Sa : Snd W F a E X ea) (hp : plainT ea = true) : Snd W F (.fz a) E X ea := by
  have hv : PE X ea (semE W F E (.fz a)) := peW Sa.v fun σ H Q h => by
    obtain ⟨w, st, s, h⟩ := h
    refine evRead (a := a) (Fr.refl w H) s (PostR.ofE h) fun y H2 w2 Rb db st2 f2 s2 hy h2 => ?_
    by_cases nc : db.nc = true
    · simp only [nc, if_true] at h2
      obtain ⟨f3, s3⟩ := frzA_snd f2 s2
      exact h2 _ noR H2 y f3 s3 (Rp.of_sh (frzA_rp f2 nc hy))
    · simp only [nc] at h2; exact h2.elim
  exact ⟨hv, PT.of_v g hv hp fun _ => rfl, (fun z => by cases z), (fun _ _ z => by cases z), Sa.ns⟩
/-- methods of texts -/
def smN : Bmt → Option (String × String)
  | .join => some ("join", "str.join")
  | .find => some ("find", "str.find")
  | .partition => some ("partition", "str.partition")
  | _ => none
theorem rpSL_strs {S : Hp} : ∀ (ss : List (List Nat)), RpSL W S (ss.map D.str) (ss.map fun l => V.str (cps l))
  | [] => by simp only [RpSL, List.map_nil]
  | a :: r => by
    simp only [RpSL, List.map_cons]
    exact ⟨_, _, rfl, rpS_str _, rpSL_strs r⟩
theorem bm_str {b : Bmt} {nm id : String} (hb : smN b = some (nm, id)) (hk : X.K = W.K) : ∃ r, MtR X id r ∧ Slot "str" (sn nm) id ∧ typeOf (.builtin id) = pure (.type "method_descriptor") ∧ BmOk W b r ∧ ∀ d, rcv b d = true → ∃ z, d = .str z := by
  cases b with
  | join =>
    cases hb
    refine ⟨_, mt_join, PySem.F.slot_str_join, PySem.F.type_str_join, ?_, fun d h => by cases d <;> simp [rcv] at h; exact ⟨_, rfl⟩⟩
    intro w w1 H H1 R R1 σ st Q E da db d x y h hx hy hp fr s
    cases da with
    | str a =>
      cases db with
      | node o kn xs =>
        have key : ∀ {ss : List (List Nat)}, strs? xs = some ss → lenSum ss + ss.length * a.length ≤ LN → d = .str (joinL a ss) → (∀ p vs, y = .ref p → RpAL W w1 R H1 xs vs → SqL X.K H1 p vs ∨ SqT X.K H1 p vs) → ∃ p vs, y = .ref p ∧ RpAL W w1 R H1 xs vs := fun _ _ _ _ => by
          obtain ⟨p, vs, e, _, la⟩ := hy.node s.sle
          exact ⟨p, vs, e, la⟩
        obtain ⟨p, vs, rfl, ra, la⟩ := hy.node s.sle
        have fin : ∀ {ss : List (List Nat)}, strs? xs = some ss → lenSum ss + ss.length * a.length ≤ LN → d = .str (joinL a ss) → (SqL X.K H1 p vs ∨ SqT X.K H1 p vs) →
            ∃ a' p', ∃ ys : List Str, x = .str a' ∧ [V.ref p] = [.ref p'] ∧ (SqL X.K H1 p' (ys.map V.str) ∨ SqT X.K H1 p' (ys.map V.str)) ∧ (ys.map (·.length)).sum + ys.length * a'.length ≤ 16777216 ∧ Q (.str (Txt.join a' ys)) H1 := by
          intro ss e1 e2 e3 e4
          have ev := strs_repE la e1
          refine ⟨cps a, p, ss.map cps, hx.str, rfl, by rw [ev] at e4; exact e4, by rw [lenSum_cps, List.length_map, cps_len]; exact e2, ?_⟩
          rw [join_cps]
          subst e3
          exact hp.scal fr s (rpS_str _)
        cases kn with
        | lst =>
          simp only [bmtD] at h
          cases e1 : strs? xs with
          | none => rw [e1] at h; cases h
          | some ss =>
            rw [e1] at h
            simp only [Option.bind_some] at h
            split at h
            · cases h; exact fin e1 (by assumption) rfl (.inl ra.list)
            · cases h
        | tup =>
          simp only [bmtD] at h
          cases e1 : strs? xs with
          | none => rw [e1] at h; cases h
          | some ss =>
            rw [e1] at h
            simp only [Option.bind_some] at h
            split at h
            · cases h; exact fin e1 (by assumption) rfl (.inr ra.tup)
            · cases h
        | _ => simp [bmtD] at h
      | _ => simp [bmtD] at h
    | _ => simp [bmtD] at h
  | find =>
    cases hb
    refine ⟨_, mt_find, PySem.F.slot_str_find, PySem.F.type_str_find, ?_, fun d h => by cases d <;> simp [rcv] at h; exact ⟨_, rfl⟩⟩
    intro w w1 H H1 R R1 σ st Q E da db d x y h hx hy hp fr s
    match da, db, h with
    | .str a, .str [c], h =>
      simp only [bmtD, Option.some.injEq] at h; subst h
      refine ⟨cps a, cps [c], hx.str, by rw [hy.str], ?_⟩
      rw [find_one]
      exact hp.scal fr s (rpS_int _)
  | partition =>
    cases hb
    refine ⟨_, mt_partition, PySem.F.slot_str_partition, PySem.F.type_str_partition, ?_, fun d h => by cases d <;> simp [rcv] at h; exact ⟨_, rfl⟩⟩
    intro w w1 H H1 R R1 σ st Q E da db d x y h hx hy hp fr s
    match da, db, h with
    | .str a, .str [c], h =>
      simp only [bmtD] at h
      split at h
      · rename_i hl
        cases h
        refine ⟨cps a, cps [c], hx.str, by rw [hy.str], rfl, by rw [cps_len, ← LN_eq]; exact hl, ?_⟩
        rw [part_one]
        exact hp.newS fr s (rpSL_strs [(partS c a).1, (partS c a).2.1, (partS c a).2.2]) rfl
      · cases h
  | _ => cases hb
theorem snd_bm1 {b : Bmt} {o a : CE} {eo ea : Expr} {nm id : String} {ap p : Pos} (g : Gd W F c X E) (So : Snd W F o E X eo) (Sa : Snd W F a E X ea) (hb : smN b = some (nm, id)) (hline : (ap.endLine == p.line) = true) (hp : plainA eo = true) :
    Snd W F (.bm1 b o a) E X (.Call (.Attribute eo (sn nm) ap) [ea] [] p) := by
  obtain ⟨ta, tb, pa, pb, rd⟩ := two_sndM b g So Sa
  obtain ⟨r, hm, hs, ht, hr, hz⟩ := bm_str (W := W) (X := X) hb g.K
  have hv : PE X (.Call (.Attribute eo (sn nm) ap) [ea] [] p) (semE W F E (.bm1 b o a)) := peW (pe_bm PySem.F.plainAttrs_str hs ht hm pa (pa_cons pb pa_nil (starEach_cons Sa.ns)) (plainA_base hp) (few1 Sa.ns) hline (starEach_cons Sa.ns) rfl) fun σ H Q h => by
    obtain ⟨w, st, s, h⟩ := h
    have := rd (fun x H => L2.tyV X.K "str" x H) (fun x y H Q => r x [y] H Q) σ H Q w st _ s (PostR.ofE h) (fun H w R st d x s hx hd => by
      obtain ⟨z, rfl⟩ := hz d hd
      rw [hx.str]; rfl) fun x y H2 w2 Rb da db st2 f2 s2 hx hy h2 => by
        obtain ⟨d, e, h3⟩ := PostE.of h2
        exact hr e (hx.drf s2) (hy.drf s2) h3 f2 s2
    exact this
  exact ⟨hv, PT.of_v g hv rfl fun _ => rfl, (fun z => by cases z), (fun _ _ z => by cases z), rfl⟩
theorem bm_idx (hk : X.K = W.K) : BmOk W .index (L2.rIndex X.K) := by
  intro w w1 H H1 R R1 σ st Q E da db d x y h hx hy hp fr s
  match da, db, h with
  | .node o .lst xs, .str q, h =>
    simp only [bmtD] at h
    cases e1 : strs? xs with
    | none => rw [e1] at h; cases h
    | some ss =>
      rw [e1] at h
      simp only [Option.bind_some] at h
      cases e2 : ss.findIdx? (· == q) with
      | none => rw [e2] at h; cases h
      | some j =>
        rw [e2] at h
        simp only [Option.map_some, Option.some.injEq] at h
        subst h
        obtain ⟨p, vs, rfl, ra, la⟩ := hx.node s.sle
        have ev := strs_repE la e1
        subst ev
        obtain ⟨hj, h1, h2⟩ := List.findIdx?_eq_some_iff_getElem.mp e2
        refine ⟨p, (ss.map cps).map V.str, .str (cps q), j, .str (cps ss[j]), rfl, by rw [hy.str], ra.list, rfl, ?_, ?_, ?_, ?_, hp.scal fr s (rpS_int _)⟩
        · rw [List.all_eq_true]
          intro z hz
          obtain ⟨u, _, rfl⟩ := List.mem_map.mp hz
          rfl
        · rw [List.getElem?_map, List.getElem?_map, List.getElem?_eq_getElem hj]; rfl
        · have : ss[j] = q := by simpa using h1
          rw [this]
          show (cps q == cps q) = true
          simp
        · intro m z hm hz
          rw [List.getElem?_map, List.getElem?_map, List.getElem?_eq_getElem (by omega)] at hz
          simp only [Option.map_some, Option.some.injEq] at hz
          subst hz
          have := h2 m hm
          show (cps ss[m] == cps q) = false
          rw [beq_eq_false_iff_ne]
          intro e
          exact this (by simpa using cps_inj e)
theorem snd_bm1L {o a : CE} {eo ea : Expr} {ap p : Pos} (g : Gd W F c X E) (So : Snd W F o E X eo) (Sa : Snd W F a E X ea) (hline : (ap.endLine == p.line) = true) (hp : plainA eo = true) :
    Snd W F (.bm1 .index o a) E X (.Call (.Attribute eo (sn "index") ap) [ea] [] p) := by
  obtain ⟨ta, tb, pa, pb, rd⟩ := two_sndM .index g So Sa
  have hr : BmOk W .index (L2.rIndex X.K) := bm_idx (W := W) (X := X) g.K
  have hv : PE X (.Call (.Attribute eo (sn "index") ap) [ea] [] p) (semE W F E (.bm1 .index o a)) := peW (pe_bm PySem.F.plainAttrs_list PySem.F.slot_list_index PySem.F.type_list_index mt_index pa (pa_cons pb pa_nil (starEach_cons Sa.ns)) (plainA_base hp) (few1 Sa.ns) hline (starEach_cons Sa.ns) rfl) fun σ H Q h => by
    obtain ⟨w, st, s, h⟩ := h
    have := rd (fun x H => L2.tyV X.K "list" x H) (fun x y H Q => L2.rIndex X.K x [y] H Q) σ H Q w st _ s (PostR.ofE h) (fun H w R st d x s hx hd => by
      cases d with
      | node o kn xs =>
        cases kn with
        | lst =>
          obtain ⟨p, vs, rfl, sq, _⟩ := hx.list X.K s
          exact .inl ⟨rfl, vs, sq⟩
        | _ => simp [rcv] at hd
      | _ => simp [rcv] at hd) fun x y H2 w2 Rb da db st2 f2 s2 hx hy h2 => by
        obtain ⟨d, e, h3⟩ := PostE.of h2
        exact hr e (hx.drf s2) (hy.drf s2) h3 f2 s2
    exact this
  exact ⟨hv, PT.of_v g hv rfl fun _ => rfl, (fun z => by cases z), (fun _ _ z => by cases z), rfl⟩
/-- d.get(y), the dict being known as one ahead of y -/
theorem pe_dgetM {o e : Expr} {apos cpos : Pos} {td ty : TE} (hu : X.A.units + 1 < cLine) (ho : PE X o td) (he : PE X e ty) (m : M1 X o "get" apos e cpos) :
    PE X (.Call (.Attribute o "get" apos) [e] [] cpos) (tOpM (fun x H => ∃ a, x = .ref a ∧ IsD H a) (fun x y H Q => ∃ a ov, x = .ref a ∧ DGet H a y ov ∧ Q (ov.getD .non) H) td ty) := by
  refine ⟨fun pins s σ H Q I h => ?_⟩
  refine wpAny_Call_method m.base m.few m.line PySem.F.plainAttrs_dict PySem.F.slot_dict_get PySem.F.type_dict_get (thn (ho.run pins s σ H _ I h) fun u s1 ⟨x, H1, I1, rx, ⟨a, ex, d⟩, q1⟩ => ?_)
  subst ex
  obtain rfl : u = Value.ref a := rx
  obtain ⟨t1, t2, _⟩ := isD_at I1 d
  refine ⟨t1, t2, ?_⟩
  rw [m.trees]
  refine Calls.callWith_builtin rfl (Calls.evalArgs_plain (Calls.spliced_cons (thn (he.run pins s1 σ H1 _ I1 q1) fun iv s2 ⟨y, H2, I2, ry, a', ov, ea, g, q2⟩ => Calls.spliced_nil ?_)))
  cases ea
  exact d_get1 hu I2 g ry fun w' s3 I3 rw' => ⟨_, H2, I3, rw', q2⟩
theorem isD_rep {o : Bool} {kn : Kn} {xs : List D} {x : V} (s : SRep W w H σ st) (hx : RpA W w R H (.node o kn xs) x) (hk : rcv .get1 (.node o kn xs) = true) : ∃ a, x = .ref a ∧ IsD H a := by
  cases kn with
  | dK ks =>
    obtain ⟨p, vs, rfl, ⟨ho, hr, hm⟩, la⟩ := hx.node s.sle
    obtain ⟨rfl, _⟩ := hm
    exact ⟨p, rfl, .inl ⟨_, hr.1⟩⟩
  | dT ks =>
    obtain ⟨p, vs, rfl, ⟨ho, hr, hm⟩, la⟩ := hx.node s.sle
    obtain ⟨rfl, _⟩ := hm
    exact ⟨p, rfl, .inr ⟨_, hr.1⟩⟩
  | _ => simp [rcv] at hk
theorem bm_get : BmOk W .get1 (fun x ys H Q => match ys with | [y] => ∃ a ov, x = .ref a ∧ DGet H a y ov ∧ Q (ov.getD .non) H | _ => False) := by
  intro w w1 H H1 R R1 σ st Q E da db d x y h hx hy hp fr s
  cases da with
  | node o kn xs =>
    cases kn with
    | dK ks =>
      have h' : ((keyA db).bind fun k => match findK k ks xs with | some d => if d.sh then some d else none | none => some .non) = some d := by cases db <;> exact h
      cases ek : keyA db with
      | none => rw [ek] at h'; cases h'
      | some kk =>
        rw [ek] at h'
        simp only [Option.bind_some] at h'
        obtain ⟨p, r, e, gd, hf⟩ := dget_rep s ek hx hy
        cases ef : findK kk ks xs with
        | none =>
          rw [ef] at h' hf
          cases h'
          exact ⟨p, r, e, gd, by rw [hf]; exact hp.scal fr s rpS_non⟩
        | some d' =>
          rw [ef] at h' hf
          obtain ⟨v, rfl, q2⟩ := hf
          have h'' : (if d'.sh then some d' else none) = some d := h'
          split at h''
          · rename_i hs
            cases h''
            exact ⟨p, _, e, gd, hp.scal fr s (q2.sh hs)⟩
          · cases h''
    | dT ks =>
      have h' : ((keyT db).bind fun k => match findK k ks xs with | some d => if d.sh then some d else none | none => some .non) = some d := by cases db <;> exact h
      cases ek : keyT db with
      | none => rw [ek] at h'; cases h'
      | some kk =>
        rw [ek] at h'
        simp only [Option.bind_some] at h'
        obtain ⟨p, r, e, gd, hf⟩ := dgetT_rep s ek hx hy
        cases ef : findK kk ks xs with
        | none =>
          rw [ef] at h' hf
          cases h'
          exact ⟨p, r, e, gd, by rw [hf]; exact hp.scal fr s rpS_non⟩
        | some d' =>
          rw [ef] at h' hf
          obtain ⟨v, rfl, q2⟩ := hf
          have h'' : (if d'.sh then some d' else none) = some d := h'
          split at h''
          · rename_i hs
            cases h''
            exact ⟨p, _, e, gd, hp.scal fr s (q2.sh hs)⟩
          · cases h''
    | _ => simp [bmtD] at h
  | _ => simp [bmtD] at h
theorem snd_get1 {o a : CE} {eo ea : Expr} {ap p : Pos} (g : Gd W F c X E) (So : Snd W F o E X eo) (Sa : Snd W F a E X ea) (hline : (ap.endLine == p.line) = true) (hp : plainA eo = true) :
    Snd W F (.bm1 .get1 o a) E X (.Call (.Attribute eo (sn "get") ap) [ea] [] p) := by
  obtain ⟨ta, tb, pa, pb, rd⟩ := two_sndM .get1 g So Sa
  have hr : BmOk W .get1 (fun x ys H Q => match ys with | [y] => ∃ a ov, x = .ref a ∧ DGet H a y ov ∧ Q (ov.getD .non) H | _ => False) := bm_get
  have hv : PE X (.Call (.Attribute eo (sn "get") ap) [ea] [] p) (semE W F E (.bm1 .get1 o a)) := peW (pe_dgetM (by have := g.un; omega) pa pb ⟨plainA_base hp, few1 Sa.ns, hline, by rw [starEach_cons Sa.ns]; rfl⟩) fun σ H Q h => by
    obtain ⟨w, st, s, h⟩ := h
    refine rd (fun x H => ∃ a, x = .ref a ∧ IsD H a) (fun x y H Q => ∃ a ov, x = .ref a ∧ DGet H a y ov ∧ Q (ov.getD .non) H) σ H Q w st _ s (PostR.ofE h) (fun H w R st d x s hx hd => by
      cases d with
      | node o kn xs => exact isD_rep s hx hd
      | _ => simp [rcv] at hd) fun x y H2 w2 Rb da db st2 f2 s2 hx hy h2 => by
        obtain ⟨d, e, h3⟩ := PostE.of h2
        exact hr e (hx.drf s2) (hy.drf s2) h3 f2 s2
  exact ⟨hv, PT.of_v g hv rfl fun _ => rfl, (fun z => by cases z), (fun _ _ z => by cases z), rfl⟩
/-- methods of texts without arguments -/
def sm0N : Bmt → Option (String × String)
  | .upper => some ("upper", "str.upper")
  | _ => none
theorem snd_bm0 {b : Bmt} {o : CE} {eo : Expr} {nm id : String} {ap p : Pos} (g : Gd W F c X E) (So : Snd W F o E X eo) (hb : sm0N b = some (nm, id)) (hline : (ap.endLine == p.line) = true) (hp : plainA eo = true) :
    Snd W F (.bm0 b o) E X (.Call (.Attribute eo (sn nm) ap) [] [] p) := by
  have hv : PE X (.Call (.Attribute eo (sn nm) ap) [] [] p) (semE W F E (.bm0 b o)) := by
    cases b with
    | upper =>
      cases hb
      refine peW (pe_bm0 PySem.F.plainAttrs_str PySem.F.slot_str_upper PySem.F.type_str_upper mt_upper (snd_opd So) (plainA_base hp) hline) fun σ H Q h => ?_
      obtain ⟨w, st, s, h⟩ := h
      refine opd_read (Fr.refl w H) s (PostR.ofE h) fun y H2 w2 Rb db st2 _ f2 s2 hy h2 => ?_
      obtain ⟨d, e, h3⟩ := PostE.of h2
      have hy2 := hy.drf s2
      cases ed : drf st2.m db with
      | str a =>
        rw [ed] at e hy2
        simp only [bmtD] at e
        split at e
        · rename_i hl
          cases e
          rw [hy2.str]
          refine ⟨rfl, cps a, rfl, rfl, by rw [cps_len]; omega, ?_⟩
          exact h3.scal f2 s2 (rpS_str _)
        · cases e
      | _ => rw [ed] at e; simp [bmtD] at e
    | _ => cases hb
  exact ⟨hv, PT.of_v g hv rfl fun _ => rfl, (fun z => by cases z), (fun _ _ z => by cases z), rfl⟩
end
end VS
/-! VS25f: refusals made as things. -/
namespace VS
open PySem PySem.Spec L2
open PyProof.Rows hiding St
/-- what makes a refusal, as a thing -/
theorem pe_ofMk {X : Cx} {e : Expr} {t : L2.St → Hp → XK → Prop} (he : PMk X e t) : PE X e (fun σ H Q => t σ H fun cls d H' => ∃ dd, d = some dd ∧ ∀ (a : Addr) (oe : Obj), H' a = none → Zc cls (some dd) oe → (∃ vs, oe.data = .fields vs) → Q (.ref a) (upd H' a (.frz oe (.own dd)))) := by
  refine ⟨fun pins s σ H Q I h => ?_⟩
  refine wpAny_mono (he pins s σ H _ I h) (fun u s1 hu => ?_) fun _ _ x => x
  obtain ⟨a, oe, vs, sI, H', cls, d, rfl, J, k, hne, ha, hz, hd, h1, na, os, ag, r, q⟩ := hu
  obtain ⟨dd, rfl, q⟩ := q
  have I1 : Inv X pins σ (upd H' a (.frz oe (.own dd))) { sI with heap := s1.heap, toks := s1.toks } := J.laidN (t' := s1.toks) k hne na ⟨ha, oe, ha⟩
  have I2 : Inv X pins σ (upd H' a (.frz oe (.own dd))) s1 := ⟨I1.ok, os.trans J.os, ag, I1.base, I1.loc, I1.cell, I1.free, I1.freeC, I1.pin, I1.hok, I1.len⟩
  exact ⟨.ref a, _, I2, rfl, q a oe na hz ⟨vs, hd⟩⟩
section
variable {W : Wd} {F : Cl} {c : Ck} {X : Cx} {E : L2.WX} {w w1 w2 : Wh} {H H1 H2 : Hp} {R Ra Rb : Own} {σ : L2.St} {st : Sg} {Q : VK}
theorem snd_xmk {k : String} {es : CEs} {ee : Expr} {x : Str} {p1 p : Pos} (g : Gd W F c X E) (hx : x = sn k) (hk : k ∈ c.xs) (hgl : glB c.sc (sn k) = true) (hdb : dbB (sn k) = false) (S : SndL W F es E X [ee]) :
    Snd W F (.xmk k es) E X (.Call (.Name x p1) [ee] [] p) := by
  subst hx
  obtain ⟨hkx, f, hf, hr⟩ := g.rai k hk
  have hns := S.ns
  simp only [List.all_cons, Bool.and_eq_true] at hns
  have hg : Gl X (sn k) := by show X.env.scope.names.lookup (sn k) = _; rw [g.sc]; exact of_decide_eq_true hgl
  have hv : PE X (.Call (.Name (sn k) p1) [ee] [] p) (semE W F E (.xmk k es)) := peW (pe_ofMk (hr X (Kin.refl X) rfl ee (semV W F E es) p1 p hns.1 hg hdb (S.v 0))) fun σ H Q h => by
    obtain ⟨w, st, s, h⟩ := h
    have h' : PostE W w H σ Q E ((evv F es st).bind fun ds st => xmkR F k ds st) := h
    refine ⟨w, st, s, ?_⟩
    have := PostR.stepL (σ := σ) (j := 0) (Fr.refl w H) (PostR.ofE h')
    revert this
    cases evv F es st with
    | bad => exact fun this => this
    | ex x st2 => exact fun this => this
    | ok ds st2 =>
      intro this w2 Rb H2 vs f2 s2 h2
      obtain ⟨w2', Rb', ds', st2', e2, _, _, _, q2⟩ := this w2 Rb H2 vs f2 s2 h2
      cases e2
      have bad : ∀ {l : List D}, (l.length ≠ 1) → xmkR F k l st2 = .bad := fun {l} hl => by
        unfold xmkR; rw [hf]
        match l, hl with
        | [], _ => rfl
        | _ :: _ :: _, _ => rfl
        | [_], hl => exact absurd rfl hl
      match ds, h2, q2 with
      | [], _, q2 => rw [bad (by simp)] at q2; exact q2.elim
      | _ :: _ :: _, _, q2 => rw [bad (by simp)] at q2; exact q2.elim
      | [d], h2, q2 =>
        have e : xmkR F k [d] st2 = if d.nc then .ok (.node false (.exc k) [.node false (.xd [f]) [d.frz]]) st2 else .bad := by unfold xmkR; rw [hf]
        rw [e] at q2
        by_cases hn : d.nc = true
        · rw [if_pos hn] at q2
          simp only [RpT] at h2
          obtain ⟨v, r, rfl, hv, rfl⟩ := h2
          refine ⟨by simp, fun a ha => ⟨a, v, rfl, upd_same, fun dx hdx hne => ?_⟩⟩
          have hdx2 : H2 dx = none := by rw [upd_ne hne] at hdx; exact hdx
          refine ⟨rfl, dx, [(sn f, v)], upd_same, by rw [upd_ne hne, upd_same], hdx2, ?_⟩
          have eH : upd (L2.del (upd (upd (upd H2 a (exo a (W.cls k) none)) dx (exd dx [(sn f, v)])) a (exo a (W.cls k) (some dx))) a) dx (.xd [(sn f, v)]) = upd H2 dx (.xd [(sn f, v)]) := by
            funext b
            by_cases hb : b = dx
            · subst hb; rw [upd_same, upd_same]
            · rw [upd_ne hb, upd_ne hb]
              by_cases hba : b = a
              · subst hba; rw [del_same]; exact ha.symm
              · rw [del_ne hba, upd_ne hba, upd_ne hb, upd_ne hba]
          rw [eH]
          refine ⟨dx, rfl, fun a' oe na' hz hdat => ?_⟩
          obtain ⟨f3, s3⟩ := frzA_snd f2 s2
          have hv2 := frzA_rp f2 hn hv
          obtain ⟨f4, s4⟩ := grow (o := .xd [(sn f, v)]) (Fr.refl _ H2) s3 hdx2
          obtain ⟨f5, s5⟩ := grow (o := .frz oe (.own dx)) (Fr.refl _ _) s4 na'
          have hne' : dx ≠ a' := fun z => by subst z; rw [upd_same] at na'; cases na'
          have rp : RpS W (upd (upd (frzA w2 Rb H2).S dx (.xd [(sn f, v)])) a' (.frz oe (.own dx))) (.node false (.exc k) [.node false (.xd [f]) [d.frz]]) (.ref a') := by
            simp only [RpS, RpSL]
            refine ⟨trivial, a', [.ref dx], rfl, ⟨_, upd_same, oe, dx, rfl, rfl, hz.1, hz.2, hdat, hkx⟩, .ref dx, [], rfl, ⟨trivial, dx, [v], rfl, ⟨.xd [(sn f, v)], by rw [upd_ne hne', upd_same], rfl, rfl⟩, v, [], rfl, (hv2.mono f4.S).mono f5.S, rfl⟩, rfl⟩
          exact q2 _ noR _ (.ref a') ((f3.trans f4).noR.trans f5).noR s5 (Rp.of_sh rp)
        · rw [if_neg hn] at q2; exact q2.elim
  exact ⟨hv, PT.of_v g hv rfl fun _ => rfl, (fun z => by cases z), (fun _ _ z => by cases z), rfl⟩
end
end VS
/-! VS26: the check of expressions, and what it is good for. -/
namespace VS
open PySem PySem.Spec L2
open PyProof.Rows hiding St
/-- two literal arguments -/
def chkBlt (c : Ck) (b : Blt) (x : Str) : Bool := match btN b with
  | some (y, _) => decide (x = y) && glB c.sc x
  | none => false
def opD (o p : Operator) : Bool := decide (o = p)
def ownL (N : List Str) (own : List Nat) : List (Str × Nat) := own.map fun i => (N.getD i (Str.ofString ""), i)
def Ck.in_ (c : Ck) (sc : Scope) : Ck := { c with sc := relS sc c.sc, cel := false, xs := [], tr := false }
def vSlc : Expr → Option (Expr × Option Expr × Option Expr)
  | .Subscript a (.Slice lo hi none _) _ => some (a, lo, hi)
  | _ => none
theorem vSlc_eq {e a : Expr} {lo hi : Option Expr} (h : vSlc e = some (a, lo, hi)) : ∃ p2 p, e = .Subscript a (.Slice lo hi none p2) p := by
  unfold vSlc at h
  split at h
  · simp only [Option.some.injEq, Prod.mk.injEq] at h; obtain ⟨rfl, rfl, rfl⟩ := h; exact ⟨_, _, rfl⟩
  · cases h
def chkB (lo : CE) (f : Expr → Bool) : Option Expr → Bool
  | none => isAbs lo
  | some x => !isAbs lo && f x
def vNm : Expr → Option (Str × Pos)
  | .Name x p => some (x, p)
  | _ => none
theorem vNm_eq {e : Expr} {x : Str} {p : Pos} (h : vNm e = some (x, p)) : e = .Name x p := by
  cases e <;> simp [vNm] at h
  obtain ⟨rfl, rfl⟩ := h; rfl
/-- a check: of a text; of what is behind and, or -/
structure Chk where
  e : Ck → Expr → Bool
  r : Ck → BoolOp → List Expr → Bool
def Chk.mk' (f : Ck → Expr → Bool) : Chk := ⟨f, fun c _ es => match es with
  | [x] => f c x
  | _ => false⟩
mutual
def chkX : CE → Chk
  | .cn d => .mk' fun c e => (match vConst e with | some k => chkC k d | none => false)
  | .nm i _ => .mk' fun c e => (match vName e with | some x => decide (c.N[i]? = some x) && visB c.sc x && !dbB x | none => false)
  | .gl y => .mk' fun c e => (match vName e with | some x => decide (x = sn y) && glB c.sc x && !dbB x && c.gl.contains y | none => false)
  | .bop o a b => .mk' fun c e => (match vBin e with | some (ea, op, eb) => decide (op = opOf o) && (chkX a).e c ea && (chkX b).e c eb | none => false)
  | .fz a => .mk' fun c e => plainT e && (chkX a).e c e
  | .uop o a => .mk' fun c e => (match vUn e with | some (op, ea) => decide (op = uoOf o) && (chkX a).e c ea | none => false)
  | .not_ a => .mk' fun c e => (match vUn e with | some (op, ea) => decide (op = UnaryOp.Not) && (chkX a).e c ea | none => false)
  | .cmp o a b => .mk' fun c e => (match vCmp e with
    | some (ea, [op], [eb]) => decide (op = cmOf o) && (chkX a).e c ea && (chkX b).e c eb && !isSet eb
    | _ => false)
  | .chn o q a b d => .mk' fun c e => (match vCmp e with
    | some (ea, [op, oq], [eb, ed]) => decide (op = cmOf o) && decide (oq = cmOf q) && (chkX a).e c ea && (chkX b).e c eb && (chkX d).e c ed && !isSet eb && !isSet ed
    | _ => false)
  | .and_ a b => ⟨fun c e => (match vBool e with
    | some (op, ea :: eb :: es, _) => decide (op = BoolOp.And) && (chkX a).e c ea && (chkX b).r c BoolOp.And (eb :: es)
    | _ => false), fun c op es => match es with
    | ea :: eb :: es => decide (op = BoolOp.And) && (chkX a).e c ea && (chkX b).r c BoolOp.And (eb :: es)
    | [x] => (match vBool x with
      | some (op, ea :: eb :: es, _) => decide (op = BoolOp.And) && (chkX a).e c ea && (chkX b).r c BoolOp.And (eb :: es)
      | _ => false)
    | [] => false⟩
  | .or_ a b => ⟨fun c e => (match vBool e with
    | some (op, ea :: eb :: es, _) => decide (op = BoolOp.Or) && (chkX a).e c ea && (chkX b).r c BoolOp.Or (eb :: es)
    | _ => false), fun c op es => match es with
    | ea :: eb :: es => decide (op = BoolOp.Or) && (chkX a).e c ea && (chkX b).r c BoolOp.Or (eb :: es)
    | [x] => (match vBool x with
      | some (op, ea :: eb :: es, _) => decide (op = BoolOp.Or) && (chkX a).e c ea && (chkX b).r c BoolOp.Or (eb :: es)
      | _ => false)
    | [] => false⟩
  | .ite d a b => .mk' fun c e => (match vIf e with | some (ed, ea, eb) => (chkX d).e c ed && (chkX a).e c ea && (chkX b).e c eb | none => false)
  | .tup es => .mk' fun c e => (match vTup e with | some l => chkEs es c l | none => false)
  | .lst es => .mk' fun c e => (match vLst e with | some l => chkEs es c l | none => false)
  | .idx a i _ => .mk' fun c e => (match vSub e with | some (ea, ei) => (chkX a).e c ea && (chkX i).e c ei && plainI ei | none => false)
  | .fld a f _ => .mk' fun c e => (match vAttr e with | some (ea, x) => decide (x = sn f) && (chkX a).e c ea && plainA ea && c.fl.contains f | none => false)
  | .cal f es => .mk' fun c e => (match vCall e with | some (x, l) => decide (x = sn f) && c.fs.contains f && glB c.sc x && !dbB x && chkEs es c l | none => false)
  | .bl1 b a => .mk' fun c e => (match vCall e with | some (x, [ea]) => c.calm && chkBlt c b x && (chkX a).e c ea | _ => false)
  | .bl2 b a d => .mk' fun c e => (match vCall e with | some (x, [ea, ed]) => c.calm && chkBlt c b x && (chkX a).e c ea && (chkX d).e c ed | _ => false)
  | .isi a ts => .mk' fun c e => (match ts, vCall e with
    | t :: ts, some (x, [ea, et]) => decide (x = ("isinstance" : Str)) && glB c.sc ("isinstance" : Str) && (chkX a).e c ea && (match vTup et with | some es => chkTys c (t :: ts) es && decide ((t :: ts).length ≤ 20) | none => decide (ts = []) && chkTy c t et)
    | _, _ => false)
  | .mut b o es => .mk' fun c e => (match vMeth e with
    | some (eo, x, l, k) => (match mtN b with | some (nm, _) => decide (x = sn nm) | none => false) && k && plainA eo && decide (l.length ≤ 1) && o.isNm && (chkX o).e c eo && chkEs es c l
    | none => false)
  | .cmpr elt tg it cond own => .mk' fun c e => (match vComp e with
    | some (ee, te, ie, ifs, sc) => c.calm && chkI it c te ie && !isSet ie && blkC c.N c.sc sc (ownL c.N own) && chkTg (c.in_ sc) tg te && (tgS tg).all (fun j => own.contains j) && (chkX elt).e (c.in_ sc) ee &&
        (match ifs with | [] => isYes cond | [x] => (chkX cond).e (c.in_ sc) x | _ => false)
    | none => false)
  | .dct t ks vs => .mk' fun c e => (match vDict e with
    | some (ke, ve) => chkEs ks c ke && chkEs vs c ve && decide (ke.length = ve.length) && decide (ke.length ≤ 15) && (!t || ke.isEmpty)
    | none => false)
  | .slc a lo hi => .mk' fun c e => (match vSlc e with
    | some (ea, el, eh) => (chkX a).e c ea && chkB lo ((chkX lo).e c) el && chkB hi ((chkX hi).e c) eh
    | none => false)
  | .mak k es => .mk' fun c e => (match vCall e with | some (x, l) => decide (x = sn k) && c.cs.contains k && glB c.sc x && !dbB x && chkEs es c l | none => false)
  | .xmk k es => .mk' fun c e => (match vCall e with | some (x, [ee]) => decide (x = sn k) && c.xs.contains k && glB c.sc (sn k) && !dbB (sn k) && chkEs es c [ee] | _ => false)
  | .met o m es => .mk' fun c e => (match vMeth e with
    | some (eo, x, l, k) => decide (x = sn m) && k && plainA eo && decide (l.length < 30) && c.ms.contains m && (chkX o).e c eo && chkEs es c l
    | none => false)
  | .scm k m es => .mk' fun c e => (match vMeth e with
    | some (eo, x, l, kk) => (match vNm eo with
      | some (y, _) => decide (y = sn k) && decide (x = sn m) && kk && decide (l.length < 30) && c.sm.contains (k, m) && glB c.sc y && !dbB y && chkEs es c l
      | none => false)
    | none => false)
  | .bm1 b o a => .mk' fun c e => (match vMeth e with
    | some (eo, x, [ea], k) => (match smN b with | some (nm, _) => decide (x = sn nm) | none => (decide (b = .index) && decide (x = sn "index")) || (decide (b = .get1) && decide (x = sn "get"))) && k && plainA eo && (chkX o).e c eo && (chkX a).e c ea
    | _ => false)
  | .bm0 b o => .mk' fun c e => (match vMeth e with
    | some (eo, x, [], k) => (match sm0N b with | some (nm, _) => decide (x = sn nm) | none => false) && k && plainA eo && (chkX o).e c eo
    | _ => false)
def chkEs : CEs → Ck → List Expr → Bool
  | .nil => fun _ l => l.isEmpty
  | .cons a r => fun c l => match l with
    | e :: es => (chkX a).e c e && chkEs r c es
    | [] => false
def chkI : CI → Ck → Expr → Expr → Bool
  | .val a => fun c _ e => (chkX a).e c e
  | .rng1 a => fun c _ e => (match vCall e with | some (x, [ea]) => decide (x = ("range" : Str)) && glB c.sc ("range" : Str) && (chkX a).e c ea | _ => false)
  | .rng2 a b => fun c _ e => (match vCall e with | some (x, [ea, eb]) => decide (x = ("range" : Str)) && glB c.sc ("range" : Str) && (chkX a).e c ea && (chkX b).e c eb | _ => false)
  | .enum a => fun c t e => (match vTup t, vCall e with | some _, some (x, [ea]) => decide (x = ("enumerate" : Str)) && glB c.sc ("enumerate" : Str) && (chkX a).e c ea | _, _ => false)
  | .zip a b => fun c t e => (match vTup t, vCall e with | some _, some (x, [ea, eb]) => decide (x = ("zip" : Str)) && glB c.sc ("zip" : Str) && (chkX a).e c ea && (chkX b).e c eb | _, _ => false)
  | .rev a => fun c _ e => (match vCall e with | some (x, [ea]) => decide (x = ("reversed" : Str)) && glB c.sc ("reversed" : Str) && (chkX a).e c ea | _ => false)
end
abbrev chkE (c : Ck) (a : CE) (e : Expr) : Bool := (chkX a).e c e
end VS
/-! VS27: what the check of expressions is good for. -/
namespace VS
open PySem PySem.Spec L2
open PyProof.Rows hiding St
section
variable {W : Wd} {F : Cl}
/-- what is shown of a term -/
structure SX (W : Wd) (F : Cl) (a : CE) : Prop where
  e : ∀ {c : Ck} {X : Cx} {E : L2.WX} {ex : Expr}, Gd W F c X E → (chkX a).e c ex = true → Snd W F a E X ex
  r : ∀ {c : Ck} {X : Cx} {E : L2.WX} {op : BoolOp} {es : List Expr} {p : Pos}, Gd W F c X E → (chkX a).r c op es = true → SndR W F a E X op es p
def SXs (W : Wd) (F : Cl) (a : CEs) : Prop := ∀ (c : Ck) (X : Cx) (E : L2.WX) (l : List Expr), Gd W F c X E → chkEs a c l = true → SndL W F a E X l ∧ EachP W E X (evL F a) l
def SXi (W : Wd) (F : Cl) (a : CI) : Prop := ∀ (c : Ck) (X : Cx) (E : L2.WX) (t e : Expr), Gd W F c X E → chkI a c t e = true → PI X t e (semI W F E a)
theorem SX.mk' {a : CE} {f : Ck → Expr → Bool} (hf : chkX a = .mk' f) (h : ∀ {c : Ck} {X : Cx} {E : L2.WX} {ex : Expr}, Gd W F c X E → f c ex = true → Snd W F a E X ex) : SX W F a := by
  refine ⟨fun g k => h g (by rw [hf] at k; exact k), fun {c X E op es p} g k => ?_⟩
  rw [hf] at k
  match es, k with
  | [x], k => exact sndR_one (h g k)
/-- all pieces of a comprehension -/
theorem lc_parts {elt cond : CE} {tg : Tg} {it : CI} {own : List Nat} {c : Ck} {X : Cx} {E : L2.WX} {ee te ie : Expr} {ifs : List Expr} {sc : Scope} (g : Gd W F c X E) (Si : SXi W F it) (Se : SX W F elt) (Sc : SX W F cond)
    (h : (c.calm && chkI it c te ie && !isSet ie && blkC c.N c.sc sc (ownL c.N own) && chkTg (c.in_ sc) tg te && (tgS tg).all (fun j => own.contains j) && (chkX elt).e (c.in_ sc) ee && (match ifs with | [] => isYes cond | [x] => (chkX cond).e (c.in_ sc) x | _ => false)) = true) :
    c.calm = true ∧ PI X te ie (semI W F E it) ∧ isSet ie = false ∧ BlkOk X.N X.env.scope sc (ownL c.N own) ∧ (ownL c.N own).map (·.2) = own ∧ (∀ j ∈ tgS tg, j ∈ own) ∧
      (∀ (s : Shared) (H : Hp) (C : Addr) (cl : List (Str × Addr)) (fp : List Addr), PG (X.blk s H sc (compEnvC sc cl C X.env) fp) te (semG W tg)) ∧
      (∀ (s : Shared) (H : Hp) (C : Addr) (cl : List (Str × Addr)) (fp : List Addr), PTs (X.blk s H sc (compEnvC sc cl C X.env) fp) ifs (semT W F E0 cond)) ∧
      (∀ (s : Shared) (H : Hp) (C : Addr) (cl : List (Str × Addr)) (fp : List Addr), PE (X.blk s H sc (compEnvC sc cl C X.env) fp) ee (semE W F E0 elt)) := by
  simp only [Bool.and_eq_true, Bool.not_eq_true'] at h
  obtain ⟨⟨⟨⟨⟨⟨⟨h0, h1⟩, h2⟩, h3⟩, h4⟩, h5⟩, h6⟩, h7⟩ := h
  refine ⟨h0, Si _ _ _ _ _ g h1, h2, ?_, ?_, fun j hj => ?_, fun s H C cl fp => tg_snd g.blk tg h4, fun s H C cl fp => ?_, fun s H C cl fp => (Se.e g.blk h6).v⟩
  · rw [g.N, g.sc]; exact blkOk_by h3
  · unfold ownL
    rw [List.map_map]
    simp [Function.comp_def]
  · have := List.all_eq_true.mp h5 j hj
    simpa using this
  · match ifs, h7 with
    | [], h7 =>
      refine ptsW pts_nil fun σ H Q h => ?_
      obtain ⟨w, st, s, h⟩ := h
      match cond, h7, h with
      | .cn (.bl true), h7, h =>
        have h' : PostT W w H σ Q E0 (.ok true st) := h
        exact h' w H (Fr.refl w H) s
    | [x], h7 => exact pts_one (Sc.e g.blk h7).t
mutual
theorem sndX : ∀ a : CE, SX W F a
  | .cn d => .mk' rfl fun g h => snd_cn g h
  | .nm i m => .mk' rfl fun g h => snd_nm g h
  | .gl y => .mk' rfl fun {c X E ex} g h => by
    refine snd_gl g ?_
    revert h
    cases vName ex with
    | none => exact fun h => h
    | some x =>
      intro h
      simp only [Bool.and_eq_true, decide_eq_true_eq] at h ⊢
      exact ⟨h.1, g.gl y (by simpa using h.2)⟩
  | .bop o a b => .mk' rfl fun {c X E ex} g h => by
    cases ev : vBin ex with
    | none => rw [ev] at h; cases h
    | some t =>
      rw [ev] at h
      obtain ⟨ea, op, eb⟩ := t
      obtain ⟨p, rfl⟩ := vBin_eq ev
      simp only [Bool.and_eq_true, decide_eq_true_eq] at h
      obtain ⟨⟨rfl, h1⟩, h2⟩ := h
      exact snd_bop g ((sndX a).e g h1) ((sndX b).e g h2)
  | .fz a => .mk' rfl fun {c X E ex} g h => by
    have h' : (plainT ex && (chkX a).e c ex) = true := h
    simp only [Bool.and_eq_true] at h'
    exact snd_fz g ((sndX a).e g h'.2) h'.1
  | .uop o a => .mk' rfl fun {c X E ex} g h => by
    cases ev : vUn ex with
    | none => rw [ev] at h; cases h
    | some t =>
      rw [ev] at h
      obtain ⟨op, ea⟩ := t
      obtain ⟨p, rfl⟩ := vUn_eq ev
      simp only [Bool.and_eq_true, decide_eq_true_eq] at h
      obtain ⟨rfl, h1⟩ := h
      exact snd_uop g ((sndX a).e g h1)
  | .not_ a => .mk' rfl fun {c X E ex} g h => by
    cases ev : vUn ex with
    | none => rw [ev] at h; cases h
    | some t =>
      rw [ev] at h
      obtain ⟨op, ea⟩ := t
      obtain ⟨p, rfl⟩ := vUn_eq ev
      simp only [Bool.and_eq_true, decide_eq_true_eq] at h
      obtain ⟨rfl, h1⟩ := h
      exact snd_not g ((sndX a).e g h1)
  | .cmp o a b => .mk' rfl fun {c X E ex} g h => by
    cases ev : vCmp ex with
    | none => rw [ev] at h; cases h
    | some t =>
      rw [ev] at h
      match t, h, ev with
      | (ea, [op], [eb]), h, ev =>
        obtain ⟨p, rfl⟩ := vCmp_eq ev
        simp only [Bool.and_eq_true, decide_eq_true_eq, Bool.not_eq_true'] at h
        obtain ⟨⟨⟨rfl, h1⟩, h2⟩, h3⟩ := h
        exact snd_cmp g ((sndX a).e g h1) ((sndX b).e g h2) h3
  | .chn o q a b d => .mk' rfl fun {c X E ex} g h => by
    cases ev : vCmp ex with
    | none => rw [ev] at h; cases h
    | some t =>
      rw [ev] at h
      match t, h, ev with
      | (ea, [op, oq], [eb, ed]), h, ev =>
        obtain ⟨p, rfl⟩ := vCmp_eq ev
        simp only [Bool.and_eq_true, decide_eq_true_eq, Bool.not_eq_true'] at h
        obtain ⟨⟨⟨⟨⟨⟨rfl, rfl⟩, h1⟩, h2⟩, h3⟩, h4⟩, h5⟩ := h
        exact snd_chn g ((sndX a).e g h1) ((sndX b).e g h2) ((sndX d).e g h3) h5 h4
  | .and_ a b => by
    have k : ∀ {c : Ck} {X : Cx} {E : L2.WX} {ex : Expr}, Gd W F c X E → (match vBool ex with
        | some (op, ea :: eb :: es, _) => decide (op = BoolOp.And) && (chkX a).e c ea && (chkX b).r c BoolOp.And (eb :: es)
        | _ => false) = true → Snd W F (.and_ a b) E X ex := by
      intro c X E ex g h
      cases ev : vBool ex with
      | none => rw [ev] at h; cases h
      | some t =>
        rw [ev] at h
        match t, h, ev with
        | (op, ea :: eb :: es, p), h, ev =>
          obtain rfl := vBool_eq ev
          simp only [Bool.and_eq_true, decide_eq_true_eq] at h
          obtain ⟨⟨rfl, h1⟩, h2⟩ := h
          exact snd_and g ((sndX a).e g h1) ((sndX b).r g h2)
    refine ⟨fun g h => k g h, fun {c X E op es p} g h => ?_⟩
    match es, h with
    | [x], h => exact sndR_one (k g h)
    | ea :: eb :: es, h =>
      have h' : (decide (op = BoolOp.And) && (chkX a).e c ea && (chkX b).r c BoolOp.And (eb :: es)) = true := h
      simp only [Bool.and_eq_true, decide_eq_true_eq] at h'
      obtain ⟨⟨rfl, h1⟩, h2⟩ := h'
      exact sndR_of (snd_and g ((sndX a).e g h1) ((sndX b).r g h2))
  | .or_ a b => by
    have k : ∀ {c : Ck} {X : Cx} {E : L2.WX} {ex : Expr}, Gd W F c X E → (match vBool ex with
        | some (op, ea :: eb :: es, _) => decide (op = BoolOp.Or) && (chkX a).e c ea && (chkX b).r c BoolOp.Or (eb :: es)
        | _ => false) = true → Snd W F (.or_ a b) E X ex := by
      intro c X E ex g h
      cases ev : vBool ex with
      | none => rw [ev] at h; cases h
      | some t =>
        rw [ev] at h
        match t, h, ev with
        | (op, ea :: eb :: es, p), h, ev =>
          obtain rfl := vBool_eq ev
          simp only [Bool.and_eq_true, decide_eq_true_eq] at h
          obtain ⟨⟨rfl, h1⟩, h2⟩ := h
          exact snd_or g ((sndX a).e g h1) ((sndX b).r g h2)
    refine ⟨fun g h => k g h, fun {c X E op es p} g h => ?_⟩
    match es, h with
    | [x], h => exact sndR_one (k g h)
    | ea :: eb :: es, h =>
      have h' : (decide (op = BoolOp.Or) && (chkX a).e c ea && (chkX b).r c BoolOp.Or (eb :: es)) = true := h
      simp only [Bool.and_eq_true, decide_eq_true_eq] at h'
      obtain ⟨⟨rfl, h1⟩, h2⟩ := h'
      exact sndR_of (snd_or g ((sndX a).e g h1) ((sndX b).r g h2))
  | .ite d a b => .mk' rfl fun {c X E ex} g h => by
    cases ev : vIf ex with
    | none => rw [ev] at h; cases h
    | some t =>
      rw [ev] at h
      obtain ⟨ed, ea, eb⟩ := t
      obtain ⟨p, rfl⟩ := vIf_eq ev
      simp only [Bool.and_eq_true] at h
      exact snd_ite g ((sndX d).e g h.1.1) ((sndX a).e g h.1.2) ((sndX b).e g h.2)
  | .tup es => .mk' rfl fun {c X E ex} g h => by
    cases ev : vTup ex with
    | none => rw [ev] at h; cases h
    | some l =>
      rw [ev] at h
      obtain ⟨k, p, rfl⟩ := vTup_eq ev
      exact snd_tup g (sndEs es _ _ _ _ g h).1
  | .lst es => .mk' rfl fun {c X E ex} g h => by
    cases ev : vLst ex with
    | none => rw [ev] at h; cases h
    | some l =>
      rw [ev] at h
      obtain ⟨p, rfl⟩ := vLst_eq ev
      exact snd_lst g (sndEs es _ _ _ _ g h).1
  | .idx a i m => .mk' rfl fun {c X E ex} g h => by
    cases ev : vSub ex with
    | none => rw [ev] at h; cases h
    | some t =>
      rw [ev] at h
      obtain ⟨ea, ei⟩ := t
      obtain ⟨p, rfl⟩ := vSub_eq ev
      simp only [Bool.and_eq_true] at h
      exact snd_idx g ((sndX a).e g h.1.1) ((sndX i).e g h.1.2) h.2
  | .fld a f m => .mk' rfl fun {c X E ex} g h => by
    cases ev : vAttr ex with
    | none => rw [ev] at h; cases h
    | some t =>
      rw [ev] at h
      obtain ⟨ea, x⟩ := t
      obtain ⟨p, rfl⟩ := vAttr_eq ev
      simp only [Bool.and_eq_true, decide_eq_true_eq] at h
      obtain ⟨⟨⟨rfl, h1⟩, h2⟩, h3⟩ := h
      exact snd_fld g ((sndX a).e g h1) (by simpa using h3) h2
  | .cal f es => .mk' rfl fun {c X E ex} g h => by
    cases ev : vCall ex with
    | none => rw [ev] at h; cases h
    | some t =>
      rw [ev] at h
      obtain ⟨x, l⟩ := t
      obtain ⟨p, q, rfl⟩ := vCall_eq ev
      simp only [Bool.and_eq_true, decide_eq_true_eq, Bool.not_eq_true'] at h
      obtain ⟨⟨⟨⟨rfl, h1⟩, h2⟩, h3⟩, h4⟩ := h
      exact snd_cal g rfl (by simpa using h1) h2 h3 (sndEs es _ _ _ _ g h4).1
  | .bl1 b a => .mk' rfl fun {c X E ex} g h => by
    cases ev : vCall ex with
    | none => rw [ev] at h; cases h
    | some t =>
      rw [ev] at h
      match t, h, ev with
      | (x, [ea]), h, ev =>
        obtain ⟨p, q, rfl⟩ := vCall_eq ev
        simp only [Bool.and_eq_true, chkBlt] at h
        obtain ⟨⟨h0, h1⟩, h2⟩ := h
        cases eb : btN b with
        | none => rw [eb] at h1; cases h1
        | some t =>
          rw [eb] at h1
          obtain ⟨y, f⟩ := t
          simp only [Bool.and_eq_true, decide_eq_true_eq] at h1
          obtain ⟨rfl, h3⟩ := h1
          exact snd_bl1 g h0 ((sndX a).e g h2) eb h3
  | .bl2 b a d => .mk' rfl fun {c X E ex} g h => by
    cases ev : vCall ex with
    | none => rw [ev] at h; cases h
    | some t =>
      rw [ev] at h
      match t, h, ev with
      | (x, [ea, ed]), h, ev =>
        obtain ⟨p, q, rfl⟩ := vCall_eq ev
        simp only [Bool.and_eq_true, chkBlt] at h
        obtain ⟨⟨⟨h0, h1⟩, h2⟩, h4⟩ := h
        cases eb : btN b with
        | none => rw [eb] at h1; cases h1
        | some t =>
          rw [eb] at h1
          obtain ⟨y, f⟩ := t
          simp only [Bool.and_eq_true, decide_eq_true_eq] at h1
          obtain ⟨rfl, h3⟩ := h1
          exact snd_bl2 g h0 ((sndX a).e g h2) ((sndX d).e g h4) eb h3
  | .isi a ts => .mk' rfl fun {c X E ex} g h => by
    match ts, h with
    | t :: ts, h =>
      cases ev : vCall ex with
      | none => rw [ev] at h; cases h
      | some u =>
        rw [ev] at h
        match u, h, ev with
        | (x, [ea, et]), h, ev =>
          have h' : (decide (x = ("isinstance" : Str)) && glB c.sc ("isinstance" : Str) && (chkX a).e c ea && (match vTup et with | some es => chkTys c (t :: ts) es && decide ((t :: ts).length ≤ 20) | none => decide (ts = []) && chkTy c t et)) = true := h
          rw [Bool.and_eq_true, Bool.and_eq_true, Bool.and_eq_true, decide_eq_true_eq] at h'
          obtain ⟨⟨⟨rfl, h1⟩, h2⟩, h3⟩ := h'
          obtain ⟨p, q, rfl⟩ := vCall_eq ev
          exact snd_isi g ((sndX a).e g h2) h1 g.un h3
        | (x, []), h, ev => cases h
        | (x, [_]), h, ev => cases h
        | (x, _ :: _ :: _ :: _), h, ev => cases h
    | [], h => cases h
  | .mut b o es => .mk' rfl fun {c X E ex} g h => by
    cases ev : vMeth ex with
    | none => rw [ev] at h; cases h
    | some u =>
      rw [ev] at h
      obtain ⟨eo, x, l, k⟩ := u
      obtain ⟨ap, p, rfl, rfl⟩ := vMeth_eq ev
      simp only [Bool.and_eq_true, decide_eq_true_eq] at h
      obtain ⟨⟨⟨⟨⟨⟨h1, h2⟩, h3⟩, h4⟩, h5⟩, h6⟩, h7⟩ := h
      obtain ⟨i, m, rfl⟩ : ∃ i m, o = .nm i m := by
        cases o <;> simp [CE.isNm] at h5
        exact ⟨_, _, rfl⟩
      cases eb : mtN b with
      | none => rw [eb] at h1; cases h1
      | some t =>
        rw [eb] at h1
        obtain ⟨nm, id⟩ := t
        simp only [decide_eq_true_eq] at h1
        subst h1
        exact snd_mut g ((sndX (.nm i m)).e g h6) (sndEs es _ _ _ _ g h7).1 eb h4 h2 h3
  | .cmpr elt tg it cond own => .mk' rfl fun {c X E ex} g h => by
    cases ev : vComp ex with
    | none => rw [ev] at h; cases h
    | some u =>
      rw [ev] at h
      obtain ⟨ee, te, ie, ifs, sc⟩ := u
      obtain ⟨p, rfl⟩ := vComp_eq ev
      obtain ⟨a0, a1, a2, a3, a4, a5, a6, a7, a8⟩ := lc_parts g (sndI it) (sndX elt) (sndX cond) h
      have hv : PE X (.ListComp ee [⟨te, ie, ifs, 0⟩] sc p) (semE W F E (.cmpr elt tg it cond own)) := peW (pe_lc (g.calm a0) (by rw [g.N]; exact g.nd) a1 a3 a6 a7 a8 (fold_no a2)) fun σ H Q h => by
        rw [a4]; exact lc_sem a5 h
      exact ⟨hv, PT.of_v g hv rfl fun _ => rfl, (fun z => by cases z), (fun _ _ z => by cases z), rfl⟩
  | .dct t ks vs => .mk' rfl fun {c X E ex} g h => by
    cases ev : vDict ex with
    | none => rw [ev] at h; cases h
    | some u =>
      rw [ev] at h
      obtain ⟨ke, ve⟩ := u
      obtain ⟨p, rfl⟩ := vDict_eq ev
      simp only [Bool.and_eq_true, decide_eq_true_eq] at h
      obtain ⟨⟨⟨⟨h1, h2⟩, h3⟩, h4⟩, h5⟩ := h
      have S1 := sndEs ks _ _ _ _ g h1
      have S2 := sndEs vs _ _ _ _ g h2
      cases ke with
      | nil =>
        have e2 : ve = [] := by cases ve with | nil => rfl | cons => simp at h3
        subst e2
        have k1 : ks = .nil := by
          cases ks with
          | nil => rfl
          | cons a r => have := S1.1.len; simp [CEs.len] at this
        have k2 : vs = .nil := by
          cases vs with
          | nil => rfl
          | cons a r => have := S2.1.len; simp [CEs.len] at this
        subst k1 k2
        exact snd_dct0 g
      | cons e es =>
        cases t with
        | false => exact snd_dct g S1.2 S2.2 h3 h4 (by simp)
        | true => simp at h5
  | .slc a lo hi => .mk' rfl fun {c X E ex} g h => by
    cases ev : vSlc ex with
    | none => rw [ev] at h; cases h
    | some t =>
      rw [ev] at h
      obtain ⟨ea, el, eh⟩ := t
      obtain ⟨p2, p, rfl⟩ := vSlc_eq ev
      have h' : ((chkX a).e c ea && chkB lo ((chkX lo).e c) el && chkB hi ((chkX hi).e c) eh) = true := h
      rw [Bool.and_eq_true, Bool.and_eq_true] at h'
      obtain ⟨⟨h1, h2⟩, h3⟩ := h'
      have abs : ∀ {b : CE}, isAbs b = true → b = .cn .non := fun {b} z => by
        unfold isAbs at z
        split at z
        · rfl
        · cases z
      refine snd_slc g ((sndX a).e g h1) ?_ ?_
      · cases el with
        | none => rw [abs h2]; exact sndB_none
        | some x =>
          have h2' : (!isAbs lo && (chkX lo).e c x) = true := h2
          rw [Bool.and_eq_true, Bool.not_eq_true'] at h2'
          exact sndB_some h2'.1 ((sndX lo).e g h2'.2)
      · cases eh with
        | none => rw [abs h3]; exact sndB_none
        | some x =>
          have h3' : (!isAbs hi && (chkX hi).e c x) = true := h3
          rw [Bool.and_eq_true, Bool.not_eq_true'] at h3'
          exact sndB_some h3'.1 ((sndX hi).e g h3'.2)
  | .mak k es => .mk' rfl fun {c X E ex} g h => by
    cases ev : vCall ex with
    | none => rw [ev] at h; cases h
    | some t =>
      rw [ev] at h
      obtain ⟨x, l⟩ := t
      obtain ⟨p, q, rfl⟩ := vCall_eq ev
      simp only [Bool.and_eq_true, decide_eq_true_eq, Bool.not_eq_true'] at h
      obtain ⟨⟨⟨⟨rfl, h1⟩, h2⟩, h3⟩, h4⟩ := h
      exact snd_mak g rfl (by simpa using h1) h2 h3 (sndEs es _ _ _ _ g h4).1
  | .xmk k es => .mk' rfl fun {c X E ex} g h => by
    cases ev : vCall ex with
    | none => rw [ev] at h; cases h
    | some t =>
      rw [ev] at h
      obtain ⟨x, l⟩ := t
      obtain ⟨p, q, rfl⟩ := vCall_eq ev
      match l, h with
      | [ee], h =>
        simp only [Bool.and_eq_true, decide_eq_true_eq, Bool.not_eq_true'] at h
        obtain ⟨⟨⟨⟨h0, h1⟩, h2⟩, h3⟩, h4⟩ := h
        exact snd_xmk g h0 (by simpa using h1) h2 h3 (sndEs es _ _ _ _ g h4).1
      | [], h => cases h
      | _ :: _ :: _, h => cases h
  | .met o m es => .mk' rfl fun {c X E ex} g h => by
    cases ev : vMeth ex with
    | none => rw [ev] at h; cases h
    | some u =>
      rw [ev] at h
      obtain ⟨eo, x, l, k⟩ := u
      obtain ⟨ap, p, rfl, rfl⟩ := vMeth_eq ev
      simp only [Bool.and_eq_true, decide_eq_true_eq] at h
      obtain ⟨⟨⟨⟨⟨⟨rfl, h2⟩, h3⟩, h4⟩, h5⟩, h6⟩, h7⟩ := h
      have S := (sndEs es _ _ _ _ g h7).1
      exact snd_met g ((sndX o).e g h6) (by simpa using h5) S (met_eval h3 S.ns h4 h2)
  | .scm k m es => .mk' rfl fun {c X E ex} g h => by
    cases ev : vMeth ex with
    | none => rw [ev] at h; cases h
    | some u =>
      rw [ev] at h
      obtain ⟨eo, x, l, kk⟩ := u
      obtain ⟨ap, p, rfl, rfl⟩ := vMeth_eq ev
      cases ev2 : vNm eo with
      | none => simp only [ev2] at h; cases h
      | some u2 =>
        obtain ⟨y, p1⟩ := u2
        obtain rfl := vNm_eq ev2
        simp only [ev2, Bool.and_eq_true, decide_eq_true_eq, Bool.not_eq_true'] at h
        obtain ⟨⟨⟨⟨⟨⟨⟨rfl, rfl⟩, h2⟩, h3⟩, h4⟩, h5⟩, h6⟩, h7⟩ := h
        have S := (sndEs es _ _ _ _ g h7).1
        exact snd_scm g (by simpa using h4) h5 h6 S (met_eval rfl S.ns h3 h2)
  | .bm0 b o => .mk' rfl fun {c X E ex} g h => by
    cases ev : vMeth ex with
    | none => rw [ev] at h; cases h
    | some u =>
      rw [ev] at h
      obtain ⟨eo, x, l, k⟩ := u
      obtain ⟨ap, p, rfl, rfl⟩ := vMeth_eq ev
      match l, h with
      | [], h =>
        cases eb : sm0N b with
        | none => simp only [eb] at h; cases h
        | some t =>
          obtain ⟨nm, id⟩ := t
          simp only [eb, Bool.and_eq_true, decide_eq_true_eq] at h
          obtain ⟨⟨⟨rfl, h2⟩, h3⟩, h4⟩ := h
          exact snd_bm0 g ((sndX o).e g h4) eb h2 h3
  | .bm1 b o a => .mk' rfl fun {c X E ex} g h => by
    cases ev : vMeth ex with
    | none => rw [ev] at h; cases h
    | some u =>
      rw [ev] at h
      obtain ⟨eo, x, l, k⟩ := u
      obtain ⟨ap, p, rfl, rfl⟩ := vMeth_eq ev
      match l, h with
      | [ea], h =>
        cases eb : smN b with
        | none =>
          simp only [eb, Bool.and_eq_true, Bool.or_eq_true, decide_eq_true_eq] at h
          obtain ⟨⟨⟨⟨hn, h2⟩, h3⟩, h4⟩, h5⟩ := h
          rcases hn with ⟨rfl, rfl⟩ | ⟨rfl, rfl⟩
          · exact snd_bm1L g ((sndX o).e g h4) ((sndX a).e g h5) h2 h3
          · exact snd_get1 g ((sndX o).e g h4) ((sndX a).e g h5) h2 h3
        | some t =>
          obtain ⟨nm, id⟩ := t
          simp only [eb, Bool.and_eq_true, decide_eq_true_eq] at h
          obtain ⟨⟨⟨⟨rfl, h2⟩, h3⟩, h4⟩, h5⟩ := h
          exact snd_bm1 g ((sndX o).e g h4) ((sndX a).e g h5) eb h2 h3
theorem sndEs : ∀ a : CEs, SXs W F a
  | .nil => fun c X E l g h => by
    cases l with
    | nil => exact ⟨sndL_nil, trivial⟩
    | cons => cases h
  | .cons a r => fun c X E l g h => by
    cases l with
    | nil => cases h
    | cons e es =>
      have h' : ((chkX a).e c e && chkEs r c es) = true := h
      simp only [Bool.and_eq_true] at h'
      exact ⟨sndL_cons ((sndX a).e g h'.1) (sndEs r _ _ _ _ g h'.2).1, ((sndX a).e g h'.1).v, (sndEs r _ _ _ _ g h'.2).2⟩
theorem sndI : ∀ a : CI, SXi W F a
  | .val a => fun c X E t e g h => itv_snd g ((sndX a).e g h).v
  | .rng1 a => fun c X E t e g h => by
    have h' : (match vCall e with | some (x, [ea]) => decide (x = ("range" : Str)) && glB c.sc ("range" : Str) && (chkX a).e c ea | _ => false) = true := h
    cases ev : vCall e with
    | none => rw [ev] at h'; cases h'
    | some u =>
      rw [ev] at h'
      match u, h', ev with
      | (x, [ea]), h', ev =>
        obtain ⟨p, q, rfl⟩ := vCall_eq ev
        simp only [Bool.and_eq_true, decide_eq_true_eq] at h'
        obtain ⟨⟨rfl, h1⟩, h2⟩ := h'
        have S := (sndX a).e g h2
        exact itr1_snd g S.v S.ns h1
  | .rng2 a b => fun c X E t e g h => by
    have h' : (match vCall e with | some (x, [ea, eb]) => decide (x = ("range" : Str)) && glB c.sc ("range" : Str) && (chkX a).e c ea && (chkX b).e c eb | _ => false) = true := h
    cases ev : vCall e with
    | none => rw [ev] at h'; cases h'
    | some u =>
      rw [ev] at h'
      match u, h', ev with
      | (x, [ea, eb]), h', ev =>
        obtain ⟨p, q, rfl⟩ := vCall_eq ev
        simp only [Bool.and_eq_true, decide_eq_true_eq] at h'
        obtain ⟨⟨⟨rfl, h1⟩, h2⟩, h3⟩ := h'
        have S := (sndX a).e g h2
        have S2 := (sndX b).e g h3
        exact itr2_snd g S.v S2.v S.ns S2.ns h1
  | .enum a => fun c X E t e g h => by
    have h' : (match vTup t, vCall e with | some _, some (x, [ea]) => decide (x = ("enumerate" : Str)) && glB c.sc ("enumerate" : Str) && (chkX a).e c ea | _, _ => false) = true := h
    cases et : vTup t with
    | none => rw [et] at h'; cases h'
    | some ts =>
      cases ev : vCall e with
      | none => rw [et, ev] at h'; cases h'
      | some u =>
        rw [et, ev] at h'
        match u, h', ev with
        | (x, [ea]), h', ev =>
          obtain ⟨p, q, rfl⟩ := vCall_eq ev
          obtain ⟨k, p2, rfl⟩ := vTup_eq et
          simp only [Bool.and_eq_true, decide_eq_true_eq] at h'
          obtain ⟨⟨rfl, h1⟩, h2⟩ := h'
          have S := (sndX a).e g h2
          exact ite_snd g S.v S.ns h1
  | .zip a b => fun c X E t e g h => by
    have h' : (match vTup t, vCall e with | some _, some (x, [ea, eb]) => decide (x = ("zip" : Str)) && glB c.sc ("zip" : Str) && (chkX a).e c ea && (chkX b).e c eb | _, _ => false) = true := h
    cases et : vTup t with
    | none => rw [et] at h'; cases h'
    | some ts =>
      cases ev : vCall e with
      | none => rw [et, ev] at h'; cases h'
      | some u =>
        rw [et, ev] at h'
        match u, h', ev with
        | (x, [ea, eb]), h', ev =>
          obtain ⟨p, q, rfl⟩ := vCall_eq ev
          obtain ⟨k, p2, rfl⟩ := vTup_eq et
          simp only [Bool.and_eq_true, decide_eq_true_eq] at h'
          obtain ⟨⟨⟨rfl, h1⟩, h2⟩, h3⟩ := h'
          have S := (sndX a).e g h2
          have S2 := (sndX b).e g h3
          exact itz_snd g S.v S2.v S.ns S2.ns h1
  | .rev a => fun c X E t e g h => by
    have h' : (match vCall e with | some (x, [ea]) => decide (x = ("reversed" : Str)) && glB c.sc ("reversed" : Str) && (chkX a).e c ea | _ => false) = true := h
    cases ev : vCall e with
    | none => rw [ev] at h'; cases h'
    | some u =>
      rw [ev] at h'
      match u, h', ev with
      | (x, [ea]), h', ev =>
        obtain ⟨p, q, rfl⟩ := vCall_eq ev
        simp only [Bool.and_eq_true, decide_eq_true_eq] at h'
        obtain ⟨⟨rfl, h1⟩, h2⟩ := h'
        have S := (sndX a).e g h2
        exact itv2_snd g S.v S.ns h1
end
end
end VS
/-! VS28: the check of statements, and what it is good for. -/
namespace VS
open PySem PySem.Spec L2
open PyProof.Rows hiding St
/-! views -/
def vAsg : Stmt → Option (Expr × Expr × Pos)
  | .Assign [t] e p => some (t, e, p)
  | _ => none
theorem vAsg_eq {s : Stmt} {t e : Expr} {p : Pos} (h : vAsg s = some (t, e, p)) : s = .Assign [t] e p := by
  unfold vAsg at h
  split at h
  · cases h; rfl
  · cases h
def vAug : Stmt → Option (Str × Operator × Expr)
  | .AugAssign (.Name x _) o e _ => some (x, o, e)
  | _ => none
theorem vAug_eq {s : Stmt} {x : Str} {o : Operator} {e : Expr} (h : vAug s = some (x, o, e)) : ∃ p q, s = .AugAssign (.Name x p) o e q := by
  unfold vAug at h
  split at h
  · cases h; exact ⟨_, _, rfl⟩
  · cases h
def vExS : Stmt → Option Expr
  | .Expr e _ => some e
  | _ => none
theorem vExS_eq {s : Stmt} {e : Expr} (h : vExS s = some e) : ∃ p, s = .Expr e p := by
  cases s <;> simp [vExS] at h
  subst h; exact ⟨_, rfl⟩
def vRet : Stmt → Option (Option Expr)
  | .Return e _ => some e
  | _ => none
theorem vRet_eq {s : Stmt} {e : Option Expr} (h : vRet s = some e) : ∃ p, s = .Return e p := by
  cases s <;> simp [vRet] at h
  subst h; exact ⟨_, rfl⟩
def vIfS : Stmt → Option (Expr × List Stmt × List Stmt)
  | .If c a b _ => some (c, a, b)
  | _ => none
theorem vIfS_eq {s : Stmt} {c : Expr} {a b : List Stmt} (h : vIfS s = some (c, a, b)) : ∃ p, s = .If c a b p := by
  cases s <;> simp [vIfS] at h
  obtain ⟨rfl, rfl, rfl⟩ := h; exact ⟨_, rfl⟩
def vFor : Stmt → Option (Expr × Expr × List Stmt)
  | .For t i b [] _ => some (t, i, b)
  | _ => none
theorem vFor_eq {s : Stmt} {t i : Expr} {b : List Stmt} (h : vFor s = some (t, i, b)) : ∃ p, s = .For t i b [] p := by
  unfold vFor at h
  split at h
  · cases h; exact ⟨_, rfl⟩
  · cases h
def vWhl : Stmt → Option (Expr × List Stmt)
  | .While t b [] _ => some (t, b)
  | _ => none
theorem vWhl_eq {s : Stmt} {t : Expr} {b : List Stmt} (h : vWhl s = some (t, b)) : ∃ p, s = .While t b [] p := by
  unfold vWhl at h
  split at h
  · cases h; exact ⟨_, rfl⟩
  · cases h
def vRai : Stmt → Option (Str × Expr)
  | .Raise (some (.Call (.Name x _) [e] [] _)) none _ => some (x, e)
  | _ => none
theorem vRai_eq {s : Stmt} {x : Str} {e : Expr} (h : vRai s = some (x, e)) : ∃ p1 p p2, s = .Raise (some (.Call (.Name x p1) [e] [] p)) none p2 := by
  unfold vRai at h
  split at h
  · cases h; exact ⟨_, _, _, rfl⟩
  · cases h
def vTry : Stmt → Option (List Stmt × List ExceptHandler × List Stmt)
  | .Try b (h :: hs) e [] _ => some (b, h :: hs, e)
  | _ => none
theorem vTry_eq {s : Stmt} {b e : List Stmt} {hs : List ExceptHandler} (h : vTry s = some (b, hs, e)) : ∃ h0 r p, hs = h0 :: r ∧ s = .Try b (h0 :: r) e [] p := by
  unfold vTry at h
  split at h
  · cases h; exact ⟨_, _, _, rfl, rfl⟩
  · cases h
def vHd : ExceptHandler → Option (Str × Option Str × List Stmt)
  | .ExceptHandler (some (.Name x _)) n (b :: r) _ => some (x, n, b :: r)
  | _ => none
theorem vHd_eq {e : ExceptHandler} {x : Str} {n : Option Str} {b : List Stmt} (h : vHd e = some (x, n, b)) : ∃ b0 r p1 p2, b = b0 :: r ∧ e = .ExceptHandler (some (.Name x p1)) n (b0 :: r) p2 := by
  unfold vHd at h
  split at h
  · cases h; exact ⟨_, _, _, _, rfl, rfl⟩
  · cases h
def hdNm (c : Ck) (i : Option Nat) (n : Option Str) : Bool := match i, n with
  | none, none => true
  | some i, some n => decide (c.N[i]? = some n) && decide (c.sc.names.lookup n = some .local)
  | _, _ => false
def isPass : Stmt → Bool
  | .Pass _ => true
  | _ => false
def isRaise : Stmt → Bool
  | .Raise _ _ _ => true
  | _ => false
def vNameP : Expr → Option (Str × Pos)
  | .Name x p => some (x, p)
  | _ => none
theorem vNameP_eq {e : Expr} {x : Str} {p : Pos} (h : vNameP e = some (x, p)) : e = .Name x p := by
  cases e <;> simp [vNameP] at h
  obtain ⟨rfl, rfl⟩ := h; rfl
def augOk : Bop → Bool
  | .add => true
  | .sub => true
  | .or => true
  | .and => true
  | .shr => true
  | _ => false
def isFnS (sc : Scope) : Bool := match sc.kind with
  | .function => true
  | _ => false
/-- name = [..] on one line -/
def lcSw (c : Ck) (t e : Expr) : Bool := match vNameP t, vComp e with
  | some (y, py), some (_, _, _, _, sc) => isFnS c.sc && decide (c.sc.names.lookup y = some .local) && (py.line == e.pos.line) && !(sc.names.any fun (n, k) => n == y && (k == .local || k == .cell))
  | _, _ => false
def isCmpr : CE → Bool
  | .cmpr _ _ _ _ _ => true
  | _ => false
def isNmT : Tg → Bool
  | .nm _ => true
  | _ => false
/-- a place of what stands in a field -/
def chkFI (c : Ck) (o i e : CE) (oe ie ee : Expr) : Bool := match o with
  | .fld (.nm j m) f _ => (match vAttr oe with
    | some (oo, x) => decide (x = sn f) && c.fl.contains f && chkE c (.nm j m) oo && plainA oo && i.isPk && chkE c i ie && plainI ie && chkE c e ee && noComp ee
    | none => false)
  | _ => false
mutual
def chkS : CS → Ck → Stmt → Bool
  | .asg t e => fun c s => (match vAsg s with
    | some (te, ee, _) => chkTg c t te && chkE c e ee && ((noComp ee && okSw te ee) || (isCmpr e && isNmT t && lcSw c te ee))
    | none => false)
  | .aug i o e => fun c s => (match vAug s with
    | some (x, op, ee) => decide (op = opOf o) && augOk o && decide (c.N[i]? = some x) && locB c x && chkE c e ee
    | none => false)
  | .setI o i e => fun c s => (match vAsg s with
    | some (te, ee, _) => (match vSub te with | some (oe, ie) => (o.isNm && chkE c o oe && chkE c i ie && plainI ie && chkE c e ee && noComp ee) || chkFI c o i e oe ie ee | none => false)
    | none => false)
  | .setF o f e => fun c s => (match vAsg s with
    | some (te, ee, _) => (match vAttr te with | some (oe, x) => decide (x = sn f) && o.isNm && chkE c o oe && c.fl.contains f && chkE c e ee && noComp ee | none => false)
    | none => false)
  | .ex e => fun c s => (match vExS s with | some ee => chkE c e ee && noComp ee | none => false)
  | .ret e => fun c s => (match vRet s with | some (some ee) => chkE c e ee | _ => false)
  | .retN => fun c s => (match vRet s with | some none => true | _ => false)
  | .ifs e a b => fun c s => (match vIfS s with | some (ee, sa, sb) => chkE c e ee && chkSs a c sa && chkSs b c sb | none => false)
  | .for_ t ci b => fun c s => (match vFor s with | some (te, ie, sb) => c.calm && chkTg c t te && chkI ci c te ie && chkSs b c sb && !isSet ie | none => false)
  | .forc t e b => fun c s => (match vFor s with | some (te, ie, sb) => c.calm && chkTg c t te && chkE c e ie && chkSs b c sb && !isSet ie | none => false)
  | .whl e b _ => fun c s => (match vWhl s with | some (ee, sb) => chkE c e ee && chkSs b c sb | none => false)
  | .rai k es => fun c s => if k = "" ∧ es.len = 0 then isRaise s else (match vRai s with
    | some (x, ee) => c.calm && decide (x = sn k) && c.xs.contains k && glB c.sc (sn k) && !dbB (sn k) && chkEs es c [ee]
    | none => false)
  | .pass => fun _ s => isPass s
  | .kill _ => fun _ _ => false
  | .frs _ => fun _ _ => false
  | .frc _ => fun _ _ => false
  | .try_ b hs e => fun c s => (match vTry s with | some (sb, hd, se) => c.tr && chkSs b c sb && chkHs hs c hd && chkSs e c se | none => false)
def chkHs : HDs → Ck → List ExceptHandler → Bool
  | .nil => fun _ l => l.isEmpty
  | .cons k i s r => fun c l => (match l with
    | h :: hd => (match vHd h with
      | some (x, n, b) => decide (x = sn k) && c.xa.contains k && glB c.sc (sn k) && !dbB (sn k) && hdNm c i n && chkSs s c.suite b && chkHs r c hd
      | none => false)
    | [] => false)
def chkSs : CSs → Ck → List Stmt → Bool
  | .nil => fun _ l => l.isEmpty
  | .cons a r => fun c l => (match a with
    | .kill _ => chkSs r c l
    | .frs _ => chkSs r c l
    | .frc _ => chkSs r c l
    | a => (match l with
      | s :: ss => chkS a c s && chkSs r c ss
      | [] => false))
end
section
variable {W : Wd} {F : Cl}
/-- name = [..], the names told together -/
theorem s_setLc {elt cond : CE} {tg : Tg} {it : CI} {own : List Nat} {i : Nat} {c : Ck} {X : Cx} {E : L2.WX} {ee te ie : Expr} {ifs : List Expr} {sc : Scope} {y : Str} {py pos p : Pos} (g : Gd W F c X E)
    (h : chkE c (.cmpr elt tg it cond own) (.ListComp ee [⟨te, ie, ifs, 0⟩] sc pos) = true) (h1 : chkTg c (.nm i) (.Name y py) = true) (h2 : lcSw c (.Name y py) (.ListComp ee [⟨te, ie, ifs, 0⟩] sc pos) = true) :
    PS X (.Assign [.Name y py] (.ListComp ee [⟨te, ie, ifs, 0⟩] sc pos) p) (semS W F E (.asg (.nm i) (.cmpr elt tg it cond own))) := by
  obtain ⟨a0, a1, a2, a3, a4, a5, a6, a7, a8⟩ := lc_parts g (sndI it) (sndX elt) (sndX cond) h
  have h2' : (isFnS c.sc && decide (c.sc.names.lookup y = some .local) && (py.line == pos.line) && !(sc.names.any fun (n, k) => n == y && (k == .local || k == .cell))) = true := h2
  simp only [Bool.and_eq_true, decide_eq_true_eq, Bool.not_eq_true'] at h2'
  obtain ⟨⟨⟨b1, b2⟩, b3⟩, b4⟩ := h2'
  have hi : c.N[i]? = some y := by
    simp only [chkTg, vName, Bool.and_eq_true, decide_eq_true_eq] at h1
    exact h1.1.1
  have hk : X.env.scope.kind = .function := by
    rw [g.sc]
    unfold isFnS at b1
    split at b1
    · assumption
    · cases b1
  have hy : X.env.scope.names.lookup y = some .local := by rw [g.sc]; exact b2
  refine psW (ps_setLc (g.calm a0) (by rw [g.N]; exact g.nd) (by rw [g.N]; exact hi) hy (sw_true hk hy b3 b4) a1 a3 a6 a7 a8 (fold_no a2)) fun DD σ H h => ?_
  obtain ⟨w, st, s, h⟩ := h
  have h' : PostS W w H DD E ((ev F (.cmpr elt tg it cond own) st).ob fun d st => (Rs.of (tgD (.nm i) d st) st).ob fun st' _ => .nx st') := h
  show tLc _ _ _ _ ((ownL c.N own).map (·.2)) σ H fun x H1 => gName i x σ H1 DD.nx
  rw [a4]
  refine lc_sem a5 (evRead (Fr.refl w H) s (PostR.ofS h') fun v H1 w1 R1 d st1 f1 s1 hv h2 => ?_)
  obtain ⟨st', e1, h3⟩ := PostR.of (PostR.ofS h2)
  simp only [tgD] at e1
  split at e1
  · rename_i hl
    cases e1
    obtain ⟨w2, f2, s2⟩ := set_slot f1 s1 hv hl
    exact h3 w2 _ H1 f2 s2
  · cases e1
def SS (W : Wd) (F : Cl) (a : CS) : Prop := ∀ (c : Ck) (X : Cx) (E : L2.WX) (s : Stmt), Gd W F c X E → chkS a c s = true → PS X s (semS W F E a)
def SHs (W : Wd) (F : Cl) (hs : HDs) : Prop := ∀ (c : Ck) (X : Cx) (E : L2.WX) (l : List ExceptHandler), Gd W F c X E → chkHs hs c l = true → HdV X l (lH W F hs) ∧ inXs W hs
def SSs (W : Wd) (F : Cl) (a : CSs) : Prop := ∀ (c : Ck) (X : Cx) (E : L2.WX) (l : List Stmt), Gd W F c X E → chkSs a c l = true → PSs X l (semSs W F E a)
mutual
theorem sndS : ∀ a : CS, SS W F a
  | .asg t e => fun c X E s g h => by
    have h' : (match vAsg s with
      | some (te, ee, _) => chkTg c t te && chkE c e ee && ((noComp ee && okSw te ee) || (isCmpr e && isNmT t && lcSw c te ee))
      | none => false) = true := h
    cases ev : vAsg s with
    | none => rw [ev] at h'; cases h'
    | some u =>
      rw [ev] at h'
      obtain ⟨te, ee, p⟩ := u
      obtain rfl := vAsg_eq ev
      have h2 : (chkTg c t te && chkE c e ee && ((noComp ee && okSw te ee) || (isCmpr e && isNmT t && lcSw c te ee))) = true := h'
      rw [Bool.and_eq_true, Bool.and_eq_true, Bool.or_eq_true] at h2
      obtain ⟨⟨h3, h4⟩, h5⟩ := h2
      rcases h5 with h5 | h5
      · rw [Bool.and_eq_true] at h5
        exact s_asg g ((sndX e).e g h4).v h3 h5.1 h5.2
      · rw [Bool.and_eq_true, Bool.and_eq_true] at h5
        obtain ⟨⟨h6, h7⟩, h8⟩ := h5
        cases e with
        | cmpr elt tg it cond own =>
          cases t with
          | nm i =>
            have h9 := h8
            unfold lcSw at h9
            cases e1 : vNameP te with
            | none => rw [e1] at h9; cases h9
            | some u =>
              obtain ⟨y, py⟩ := u
              obtain rfl := vNameP_eq e1
              cases e2 : vComp ee with
              | none => rw [e1, e2] at h9; cases h9
              | some u =>
                obtain ⟨a1, a2, a3, a4, a5⟩ := u
                obtain ⟨p2, rfl⟩ := vComp_eq e2
                exact s_setLc g h4 h3 h8
          | tup _ => cases h7
        | _ => cases h6
  | .aug i o e => fun c X E s g h => by
    have h' : (match vAug s with
      | some (x, op, ee) => decide (op = opOf o) && augOk o && decide (c.N[i]? = some x) && locB c x && chkE c e ee
      | none => false) = true := h
    cases ev : vAug s with
    | none => rw [ev] at h'; cases h'
    | some u =>
      rw [ev] at h'
      obtain ⟨x, op, ee⟩ := u
      obtain ⟨p, q, rfl⟩ := vAug_eq ev
      simp only [Bool.and_eq_true, decide_eq_true_eq] at h'
      obtain ⟨⟨⟨⟨rfl, h1⟩, h2⟩, h3⟩, h4⟩ := h'
      exact s_aug g ((sndX e).e g h4).v (by cases o <;> simp [augOk] at h1 ⊢) h2 h3
  | .setI o i e => fun c X E s g h => by
    have h' : (match vAsg s with
      | some (te, ee, _) => (match vSub te with | some (oe, ie) => (o.isNm && chkE c o oe && chkE c i ie && plainI ie && chkE c e ee && noComp ee) || chkFI c o i e oe ie ee | none => false)
      | none => false) = true := h
    cases ev : vAsg s with
    | none => rw [ev] at h'; cases h'
    | some u =>
      rw [ev] at h'
      obtain ⟨te, ee, p⟩ := u
      obtain rfl := vAsg_eq ev
      cases ev2 : vSub te with
      | none => simp only [ev2] at h'; cases h'
      | some u2 =>
        simp only [ev2] at h'
        obtain ⟨oe, ie⟩ := u2
        obtain ⟨p2, rfl⟩ := vSub_eq ev2
        rw [Bool.or_eq_true] at h'
        rcases h' with h' | h'
        case inr =>
          unfold chkFI at h'
          split at h'
          · split at h'
            · rename_i e4
              obtain ⟨p3, rfl⟩ := vAttr_eq e4
              simp only [Bool.and_eq_true, decide_eq_true_eq] at h'
              obtain ⟨⟨⟨⟨⟨⟨⟨⟨rfl, h1⟩, h2⟩, h3⟩, h4⟩, h5⟩, h6⟩, h7⟩, h8⟩ := h'
              exact s_setIF g ((sndX (.nm _ _)).e g h2) ((sndX i).e g h5) ((sndX e).e g h7).v (by simpa using h1) h3 h4 h8 h6
            · cases h'
          · cases h'
        simp only [Bool.and_eq_true] at h'
        obtain ⟨⟨⟨⟨⟨h1, h2⟩, h3⟩, h4⟩, h5⟩, h6⟩ := h'
        obtain ⟨j, m, rfl⟩ : ∃ i m, o = .nm i m := by
          cases o <;> simp [CE.isNm] at h1
          exact ⟨_, _, rfl⟩
        exact s_setI g ((sndX (.nm j m)).e g h2) ((sndX i).e g h3) ((sndX e).e g h5).v h6 h4
  | .setF o f e => fun c X E s g h => by
    have h' : (match vAsg s with
      | some (te, ee, _) => (match vAttr te with | some (oe, x) => decide (x = sn f) && o.isNm && chkE c o oe && c.fl.contains f && chkE c e ee && noComp ee | none => false)
      | none => false) = true := h
    cases ev : vAsg s with
    | none => rw [ev] at h'; cases h'
    | some u =>
      rw [ev] at h'
      obtain ⟨te, ee, p⟩ := u
      obtain rfl := vAsg_eq ev
      cases ev2 : vAttr te with
      | none => simp only [ev2] at h'; cases h'
      | some u2 =>
        simp only [ev2] at h'
        obtain ⟨oe, x⟩ := u2
        obtain ⟨p2, rfl⟩ := vAttr_eq ev2
        simp only [Bool.and_eq_true, decide_eq_true_eq] at h'
        obtain ⟨⟨⟨⟨⟨rfl, h1⟩, h2⟩, h3⟩, h4⟩, h5⟩ := h'
        obtain ⟨j, m, rfl⟩ : ∃ i m, o = .nm i m := by
          cases o <;> simp [CE.isNm] at h1
          exact ⟨_, _, rfl⟩
        exact s_setF g ((sndX (.nm j m)).e g h2) ((sndX e).e g h4).v (by simpa using h3) h5
  | .ex e => fun c X E s g h => by
    have h' : (match vExS s with | some ee => chkE c e ee && noComp ee | none => false) = true := h
    cases ev : vExS s with
    | none => rw [ev] at h'; cases h'
    | some ee =>
      rw [ev] at h'
      obtain ⟨p, rfl⟩ := vExS_eq ev
      simp only [Bool.and_eq_true] at h'
      exact s_ex g ((sndX e).e g h'.1).v h'.2
  | .ret e => fun c X E s g h => by
    have h' : (match vRet s with | some (some ee) => chkE c e ee | _ => false) = true := h
    cases ev : vRet s with
    | none => rw [ev] at h'; cases h'
    | some u =>
      rw [ev] at h'
      cases u with
      | none => cases h'
      | some ee =>
        obtain ⟨p, rfl⟩ := vRet_eq ev
        exact s_ret g ((sndX e).e g h').v
  | .retN => fun c X E s g h => by
    have h' : (match vRet s with | some none => true | _ => false) = true := h
    cases ev : vRet s with
    | none => rw [ev] at h'; cases h'
    | some u =>
      rw [ev] at h'
      cases u with
      | none =>
        obtain ⟨p, rfl⟩ := vRet_eq ev
        exact s_retN g
      | some ee => cases h'
  | .ifs e a b => fun c X E s g h => by
    have h' : (match vIfS s with | some (ee, sa, sb) => chkE c e ee && chkSs a c sa && chkSs b c sb | none => false) = true := h
    cases ev : vIfS s with
    | none => rw [ev] at h'; cases h'
    | some u =>
      rw [ev] at h'
      obtain ⟨ee, sa, sb⟩ := u
      obtain ⟨p, rfl⟩ := vIfS_eq ev
      simp only [Bool.and_eq_true] at h'
      exact s_ifs g ((sndX e).e g h'.1.1).t (sndSs a _ _ _ _ g h'.1.2) (sndSs b _ _ _ _ g h'.2)
  | .for_ t ci b => fun c X E s g h => by
    have h' : (match vFor s with | some (te, ie, sb) => c.calm && chkTg c t te && chkI ci c te ie && chkSs b c sb && !isSet ie | none => false) = true := h
    cases ev : vFor s with
    | none => rw [ev] at h'; cases h'
    | some u =>
      rw [ev] at h'
      obtain ⟨te, ie, sb⟩ := u
      obtain ⟨p, rfl⟩ := vFor_eq ev
      simp only [Bool.and_eq_true, Bool.not_eq_true'] at h'
      exact s_for g h'.1.1.1.1 h'.1.1.1.2 (sndI ci _ _ _ _ _ g h'.1.1.2) (sndSs b _ _ _ _ g h'.1.2) h'.2
  | .forc t e b => fun c X E s g h => by
    have h' : (match vFor s with | some (te, ie, sb) => c.calm && chkTg c t te && chkE c e ie && chkSs b c sb && !isSet ie | none => false) = true := h
    cases ev : vFor s with
    | none => rw [ev] at h'; cases h'
    | some u =>
      rw [ev] at h'
      obtain ⟨te, ie, sb⟩ := u
      obtain ⟨p, rfl⟩ := vFor_eq ev
      simp only [Bool.and_eq_true, Bool.not_eq_true'] at h'
      exact s_forc g h'.1.1.1.1 h'.1.1.1.2 ((sndX e).e g h'.1.1.2).v (sndSs b _ _ _ _ g h'.1.2) h'.2
  | .whl e b n => fun c X E s g h => by
    have h' : (match vWhl s with | some (ee, sb) => chkE c e ee && chkSs b c sb | none => false) = true := h
    cases ev : vWhl s with
    | none => rw [ev] at h'; cases h'
    | some u =>
      rw [ev] at h'
      obtain ⟨ee, sb⟩ := u
      obtain ⟨p, rfl⟩ := vWhl_eq ev
      simp only [Bool.and_eq_true] at h'
      exact s_whl g ((sndX e).e g h'.1).t (sndSs b _ _ _ _ g h'.2)
  | .rai k es => fun c X E s g h => by
    have h' : (if k = "" ∧ es.len = 0 then isRaise s else (match vRai s with
      | some (x, ee) => c.calm && decide (x = sn k) && c.xs.contains k && glB c.sc (sn k) && !dbB (sn k) && chkEs es c [ee]
      | none => false)) = true := h
    by_cases hk : k = "" ∧ es.len = 0
    · obtain ⟨_, hk⟩ := hk
      cases es with
      | cons _ _ => simp [CEs.len] at hk
      | nil =>
        exact psW ps_never fun DD σ H h => by
          obtain ⟨w, st, s, h⟩ := h
          exact h
    · rw [if_neg hk] at h'
      cases ev : vRai s with
      | none => rw [ev] at h'; cases h'
      | some u =>
        rw [ev] at h'
        obtain ⟨x, ee⟩ := u
        obtain ⟨p1, p, p2, rfl⟩ := vRai_eq ev
        simp only [Bool.and_eq_true, decide_eq_true_eq, Bool.not_eq_true'] at h'
        obtain ⟨⟨⟨⟨⟨h0, rfl⟩, h1⟩, h2⟩, h3⟩, h4⟩ := h'
        exact s_rai g h0 (by simpa using h1) h2 h3 (sndEs es _ _ _ _ g h4).1
  | .pass => fun c X E s g h => by
    have h' : isPass s = true := h
    cases s <;> simp [isPass] at h'
    exact s_pass
  | .kill is => fun c X E s g h => by cases h
  | .frs i => fun c X E s g h => by cases h
  | .frc i => fun c X E s g h => by cases h
  | .try_ b hs e => fun c X E s g h => by
    have h' : (match vTry s with | some (sb, hd, se) => c.tr && chkSs b c sb && chkHs hs c hd && chkSs e c se | none => false) = true := h
    cases ev : vTry s with
    | none => rw [ev] at h'; cases h'
    | some u =>
      rw [ev] at h'
      obtain ⟨sb, hd, se⟩ := u
      obtain ⟨h0, r, p, rfl, rfl⟩ := vTry_eq ev
      simp only [Bool.and_eq_true] at h'
      obtain ⟨⟨⟨h1, h2⟩, h3⟩, h4⟩ := h'
      obtain ⟨k1, k2⟩ := sndHs hs _ _ _ _ g h3
      exact s_try g h1 (sndSs e _ _ _ _ g h4) k2 k1 fun E' pn xe tk po => sndSs b _ _ _ _ (g.tr tk po) h2
theorem sndHs : ∀ hs : HDs, SHs W F hs
  | .nil => fun c X E l g h => by
    cases l with
    | nil => exact ⟨.nil, trivial⟩
    | cons => cases h
  | .cons k i s r => fun c X E l g h => by
    cases l with
    | nil => cases h
    | cons hd hds =>
      have h' : (match vHd hd with
        | some (x, n, b) => decide (x = sn k) && c.xa.contains k && glB c.sc (sn k) && !dbB (sn k) && hdNm c i n && chkSs s c.suite b && chkHs r c hds
        | none => false) = true := h
      cases ev : vHd hd with
      | none => rw [ev] at h'; cases h'
      | some u =>
        rw [ev] at h'
        obtain ⟨x, n, b⟩ := u
        obtain ⟨b0, rs, p1, p2, rfl, rfl⟩ := vHd_eq ev
        simp only [Bool.and_eq_true, decide_eq_true_eq, Bool.not_eq_true', dbB, Bool.or_eq_false_iff] at h'
        obtain ⟨⟨⟨⟨⟨⟨rfl, h1⟩, h2⟩, ⟨h3, _⟩, _⟩, h4⟩, h5⟩, h6⟩ := h'
        obtain ⟨k1, k2⟩ := g.xae k (by simpa using h1)
        obtain ⟨q1, q2⟩ := sndHs r _ _ _ _ g h6
        have hc : Names X (sn k) (.ref (W.cls k)) := ⟨by show X.env.scope.names.lookup (sn k) = _; rw [g.sc]; exact of_decide_eq_true h2, h3, .inl k2⟩
        refine ⟨?_, k1, q2⟩
        match i, n, h4 with
        | none, none, _ => exact .anon hc (fun a pn => sndSs s _ _ _ _ g.su h5) q1
        | some i, some n, h4 =>
          simp only [hdNm, Bool.and_eq_true, decide_eq_true_eq] at h4
          exact .named hc (by rw [g.N]; exact h4.1) (by show X.env.scope.names.lookup n = _; rw [g.sc]; exact h4.2) (fun a pn => sndSs s _ _ _ _ g.su h5) q1
theorem sndSs : ∀ a : CSs, SSs W F a
  | .nil => fun c X E l g h => by
    cases l with
    | nil => exact ss_nil
    | cons => cases h
  | .cons a r => fun c X E l g h => by
    by_cases k : ∃ is, a = .kill is
    · obtain ⟨is, rfl⟩ := k
      exact ss_kill (sndSs r _ _ _ _ g h)
    · by_cases k2 : ∃ i, a = .frs i
      · obtain ⟨i, rfl⟩ := k2
        exact ss_frs (sndSs r _ _ _ _ g h)
      by_cases k3 : ∃ i, a = .frc i
      · obtain ⟨i, rfl⟩ := k3
        exact ss_frc (sndSs r _ _ _ _ g h)
      cases l with
      | nil =>
        unfold chkSs at h
        split at h
        · exact absurd ⟨_, rfl⟩ k
        · exact absurd ⟨_, rfl⟩ k2
        · exact absurd ⟨_, rfl⟩ k3
        · cases h
      | cons s ss =>
        have h' : (chkS a c s && chkSs r c ss) = true := by
          unfold chkSs at h
          split at h
          · exact absurd ⟨_, rfl⟩ k
          · exact absurd ⟨_, rfl⟩ k2
          · exact absurd ⟨_, rfl⟩ k3
          · exact h
        simp only [Bool.and_eq_true] at h'
        exact ss_cons (sndS a _ _ _ _ g h'.1) (sndSs r _ _ _ _ g h'.2)
end
end
end VS
/-! VS29: functions. -/
namespace VS
open PySem PySem.Spec L2
open PyProof.Rows hiding St
section
variable {W : Wd} {w w1 w2 w0 : Wh} {H H1 H2 H0 : Hp} {R Ra Rb R1 : Own} {σ : L2.St} {st st' : Sg} {Q : VK}
mutual
theorem Rp.bel {W : Wd} {w w' : Wh} {H : Hp} {r : Ix} {n0 : Nat} (hS : SLe w.S w'.S) (io : ∀ (n : Nat) (a : Addr), n < n0 → w.io[n]? = some a → w'.io[n]? = some a) (own : ∀ a p, w.own a = some (r, p) → w'.own a = some (r, p)) : ∀ {d : D} {p : Ps} {v : V}, D.bel n0 d = true → Rp W w H r d p v → Rp W w' H r d p v
  | .non, _, _, _, h => by simpa only [Rp] using h
  | .bl _, _, _, _, h => by simpa only [Rp] using h
  | .int _, _, _, _, h => by simpa only [Rp] using h
  | .str _, _, _, _, h => by simpa only [Rp] using h
  | .node false k xs, _, v, _, h => by
    simp only [Rp] at h ⊢
    obtain ⟨a, vs, e, q, r⟩ := h
    exact ⟨a, vs, e, q.mono hS, RpSL.mono hS r⟩
  | .node true k xs, p, v, e, h => by
    simp only [Rp] at h ⊢
    obtain ⟨a, vs, ho, e1, q, hh, hm, t⟩ := h
    exact ⟨a, vs, ho, e1, own _ _ q, hh, hm, RpL.bel hS io own (by simpa [D.bel] using e) t⟩
  | .cell n, _, v, e, h => by
    simp only [Rp] at h ⊢
    obtain ⟨a, e1, q⟩ := h
    exact ⟨a, io _ _ (by simpa [D.bel] using e) e1, q⟩
theorem RpL.bel {W : Wd} {w w' : Wh} {H : Hp} {r : Ix} {n0 : Nat} (hS : SLe w.S w'.S) (io : ∀ (n : Nat) (a : Addr), n < n0 → w.io[n]? = some a → w'.io[n]? = some a) (own : ∀ a p, w.own a = some (r, p) → w'.own a = some (r, p)) : ∀ {xs : List D} {a : Addr} {j : Nat} {vs : List V}, D.belL n0 xs = true → RpL W w H r xs a j vs → RpL W w' H r xs a j vs
  | [], _, _, _, _, h => by simpa only [RpL] using h
  | x :: xs, a, j, vs, e, h => by
    simp only [RpL] at h ⊢
    obtain ⟨v, s, e1, q, t⟩ := h
    simp only [D.belL, Bool.and_eq_true] at e
    exact ⟨v, s, e1, Rp.bel hS io own e.1 q, RpL.bel hS io own e.2 t⟩
end
/-- only what the older cells hold -/
def cellsB (n0 : Nat) (o : Own) : Own := fun x => match o x with
  | some (.cell j, p) => if j < n0 then some (.cell j, p) else none
  | _ => none
theorem cellsB_some {n0 j : Nat} {o : Own} {x : Addr} {p : Ps} (h : o x = some (.cell j, p)) (hj : j < n0) : cellsB n0 o x = some (.cell j, p) := by unfold cellsB; rw [h]; simp [hj]
theorem cellsB_ne {n0 : Nat} {o : Own} {x : Addr} (h : cellsB n0 o x ≠ none) : o x ≠ none := by
  unfold cellsB at h
  cases e : o x with
  | none => rw [e] at h; exact absurd rfl h
  | some t => simp
theorem tidy_get : ∀ {n0 : Nat} {m : Mem} {n : Nat} {d : D}, tidy n0 m = true → m[n]? = some d → D.bel n0 d = true
  | n0, [], n, d, _, h => by simp at h
  | n0, x :: r, 0, d, h, e => by simp only [tidy, Bool.and_eq_true] at h; simp at e; subst e; exact h.1
  | n0, x :: r, n + 1, d, h, e => by simp only [tidy, Bool.and_eq_true] at h; exact tidy_get h.2 (by simpa using e)
/-- the call's own cells and names are dropped -/
theorem cut_snd {n0 : Nat} {m' : Mem} (fr : Fr w0 H w1 R1 H1) (hio : w0.io.length = n0) (sle : ∀ a u, w1.S a = some u → RdX H1 a u) (sno : ∀ a t, w1.own a = some t → w1.S a = none ∧ Lv H1 a) (len : n0 ≤ w1.io.length)
    (cel : ∀ n d, n < n0 → m'[n]? = some d → ∃ a, w1.io[n]? = some a ∧ Rp W w1 H1 (.cell n) d none (.ref a)) (ht : tidy n0 m' = true) (hm : m'.length = n0) :
    Fr w0 H ⟨w1.S, cellsB n0 w1.own, w1.io.take n0⟩ R1 H1 ∧ SRep W ⟨w1.S, cellsB n0 w1.own, w1.io.take n0⟩ H1 [] ⟨[], m'⟩ := by
  have tk : ∀ (n : Nat) (a : Addr), n < n0 → w1.io[n]? = some a → (w1.io.take n0)[n]? = some a := fun n a hn h => by rw [List.getElem?_take_of_lt hn]; exact h
  refine ⟨⟨fr.S, fun n a h => tk n a (by rw [← hio]; exact (List.getElem?_eq_some_iff.mp h).1) (fr.io n a h), fun x h => fr.dom x (cellsB_ne h), fr.domR, fr.Sd, fr.keep, fun x h => ⟨?_, (fr.R x h).2⟩⟩, ⟨sle, fun a t h => ?_, ?_, fun n d h => ?_, fun i d h => ?_, rfl⟩⟩
  · cases e : cellsB n0 w1.own x with
    | none => exact e
    | some t => exact absurd (fr.R x h).1 (cellsB_ne (by rw [e]; simp))
  · have h' := cellsB_ne (n0 := n0) (o := w1.own) (x := a) (by rw [show cellsB n0 w1.own a = some t from h]; simp)
    cases e : w1.own a with
    | none => exact absurd e h'
    | some t2 => exact sno a t2 e
  · show (w1.io.take n0).length = m'.length
    rw [List.length_take, hm]; omega
  · have h' : m'[n]? = some d := h
    have hn : n < n0 := by rw [← hm]; exact (List.getElem?_eq_some_iff.mp h').1
    obtain ⟨a, e, q⟩ := cel n d hn h'
    refine ⟨a, tk n a hn e, ?_⟩
    exact Rp.bel (w := w1) (w' := ⟨w1.S, cellsB n0 w1.own, w1.io.take n0⟩) (n0 := n0) (fun _ _ h => h) tk (fun b p hb => cellsB_some hb hn) (tidy_get ht h') q
  · have h' : ([] : List (Option D))[i]? = some (some d) := h
    simp at h'
/-- what is handed back -/
theorem fin_snd {keep : Bool} {n0 : Nat} {d e : D} {m' : Mem} {v : V} {w' : Wh} {R' : Own} {H' : Hp} (h : fin false keep n0 d st = .ok e m') (fr : Fr w0 H w' R' H') (s : SRep W w' H' σ st) (hv : Rp W (w'.wth R') H' (.temp 0) d none v) (hio : w0.io.length = n0) :
    ∃ w'' R'', Fr w0 H w'' R'' H' ∧ SRep W w'' H' [] ⟨[], m'⟩ ∧ Rp W (w''.wth R'') H' (.temp 0) e none v := by
  have hlen : n0 ≤ w'.io.length := by
    rw [← hio]
    rcases Nat.lt_or_ge w'.io.length w0.io.length with z | z
    · exfalso
      obtain ⟨a, ha⟩ : ∃ a, w0.io[w'.io.length]? = some a := ⟨_, List.getElem?_eq_getElem z⟩
      have := fr.io _ _ ha
      rw [List.getElem?_eq_none (Nat.le_refl _)] at this
      cases this
    · exact z
  have hml : (st.m.take n0).length = n0 := by rw [List.length_take, ← s.iol]; omega
  have cm : ∀ n c, n < n0 → (st.m.take n0)[n]? = some c → st.m[n]? = some c := fun n c hn h => by rw [List.getElem?_take_of_lt hn] at h; exact h
  unfold fin at h
  split at h
  · rename_i ht
    simp only [Bool.false_eq_true, if_false] at h
    -- a thing that stays as it is
    have same : ∀ {d2 : D}, D.bel n0 d2 = true → Rp W (w'.wth R') H' (.temp 0) d2 none v → ∃ w'' R'', Fr w0 H w'' R'' H' ∧ SRep W w'' H' [] ⟨[], st.m.take n0⟩ ∧ Rp W (w''.wth R'') H' (.temp 0) d2 none v := by
      intro d2 hb hv
      obtain ⟨f2, s2⟩ := cut_snd (W := W) fr hio s.sle s.sno hlen (fun n c hn hc => s.cel n c (cm n c hn hc)) ht hml
      exact ⟨_, R', f2, s2, Rp.bel (w := w'.wth R') (w' := Wh.wth ⟨w'.S, cellsB n0 w'.own, w'.io.take n0⟩ R') (n0 := n0) (fun _ _ h => h) (fun n a hn h => by show (w'.io.take n0)[n]? = some a; rw [List.getElem?_take_of_lt hn]; exact h) (fun _ _ h => h) hb hv⟩
    have frozen : ∀ {d2 : D}, d2.nc = true → Rp W (w'.wth R') H' (.temp 0) d2 none v → ∃ w'' R'', Fr w0 H w'' R'' H' ∧ SRep W w'' H' [] ⟨[], st.m.take n0⟩ ∧ Rp W (w''.wth R'') H' (.temp 0) d2.frz none v := by
      intro d2 hn hv
      obtain ⟨f1, s1⟩ := frzA_snd fr s
      obtain ⟨f2, s2⟩ := cut_snd (W := W) f1 hio s1.sle s1.sno hlen (fun n c hn hc => s1.cel n c (cm n c hn hc)) ht hml
      exact ⟨_, noR, f2, s2, Rp.of_sh (frzA_rp fr hn hv)⟩
    cases keep with
    | true =>
      rw [if_pos rfl] at h
      cases d with
      | cell j =>
        simp only [kept] at h
        split at h
        · rename_i e' he
          split at he
          · rename_i hj
            cases he
            cases h
            exact same (by simpa [D.bel] using hj) hv
          · rename_i hj
            cases ec : st.m[j]? with
            | none => rw [ec] at he; cases he
            | some c =>
              rw [ec] at he
              simp only at he
              split at he
              · rename_i hb
                obtain rfl := Option.some.inj he
                cases h
                obtain ⟨a, ea, qa⟩ := s.cel j _ ec
                have hv' : v = .ref a := by
                  simp only [Rp] at hv
                  obtain ⟨b, eb, rfl⟩ := hv
                  have eb' : w'.io[j]? = some b := eb
                  rw [ea] at eb'; cases eb'; rfl
                subst hv'
                obtain ⟨f2, s2⟩ := cut_snd (W := W) fr.noR hio s.sle s.sno hlen (fun n c hn hc => s.cel n c (cm n c hn hc)) ht hml
                let R'' : Own := fun y => match w'.own y with
                  | some (.cell i, p) => if i = j then some (.temp 0, p) else none
                  | _ => none
                have r1 : ∀ y, R'' y ≠ none → ∃ p, w'.own y = some (.cell j, p) := fun y hy => by
                  have hy' : (match w'.own y with
                    | some (.cell i, p) => if i = j then some ((.temp 0, p) : Ix × Ps) else none
                    | _ => none) ≠ none := hy
                  split at hy'
                  · rename_i i p e
                    split at hy'
                    · rename_i ej; subst ej; exact ⟨p, e⟩
                    · exact absurd rfl hy'
                  · exact absurd rfl hy'
                have r2 : ∀ y p, w'.own y = some (.cell j, p) → R'' y = some (.temp 0, p) := fun y p e => by
                  show (match w'.own y with
                    | some (.cell i, p) => if i = j then some ((.temp 0, p) : Ix × Ps) else none
                    | _ => none) = _
                  rw [e]; simp
                refine ⟨_, R'', ⟨f2.S, f2.io, f2.dom, fun y hy => ?_, f2.Sd, f2.keep, fun y hy => ?_⟩, s2, ?_⟩
                · obtain ⟨p, e⟩ := r1 y hy
                  exact fr.dom y (by rw [e]; simp)
                · obtain ⟨p, e⟩ := r1 y hy
                  refine ⟨?_, (s.sno y _ e).1, (s.sno y _ e).2⟩
                  show cellsB n0 w'.own y = none
                  unfold cellsB; rw [e]; simp; omega
                · have q1 : Rp W ⟨w'.S, R'', w'.io⟩ H' (.temp 0) _ none (.ref a) := Rp.mono (w := w') (w' := ⟨w'.S, R'', w'.io⟩) ⟨SLe.refl _, fun _ _ h => h, fun b p hb => r2 b p hb, fun _ _ _ _ h => h⟩ qa
                  exact Rp.bel (w := ⟨w'.S, R'', w'.io⟩) (w' := Wh.wth ⟨w'.S, cellsB n0 w'.own, w'.io.take n0⟩ R'') (n0 := n0) (fun _ _ h => h) (fun n a hn h => by show (w'.io.take n0)[n]? = some a; rw [List.getElem?_take_of_lt hn]; exact h) (fun _ _ h => h) hb q1
              · cases he
        · cases h
      | _ =>
        simp only [kept] at h
        split at h
        · rename_i e' he
          split at he
          · rename_i hb
            cases he
            cases h
            exact same hb hv
          · cases he
        · cases h
    | false =>
      rw [if_neg Bool.false_ne_true] at h
      cases d with
      | cell j =>
        simp only [handed] at h
        split at h
        · rename_i e' he
          split at he
          · rename_i hj
            cases he
            cases h
            exact same (by simpa [D.bel] using hj) hv
          · rename_i hj
            cases ec : st.m[j]? with
            | none => rw [ec] at he; cases he
            | some c =>
              rw [ec] at he
              simp only at he
              split at he
              · rename_i hn
                cases he
                cases h
                obtain ⟨a, ea, qa⟩ := s.cel j c ec
                have hv' : v = .ref a := by
                  simp only [Rp] at hv
                  obtain ⟨b, eb, rfl⟩ := hv
                  have eb' : w'.io[j]? = some b := eb
                  rw [ea] at eb'; cases eb'; rfl
                subst hv'
                have fz : Fz w' (frzW (.cell j) w' H').S H' (.cell j) := ⟨frzW_S s.sno, fun a p u h q => by
                  show (if byR (.cell j) w'.own a = true then H' a else w'.S a) = some u
                  rw [if_pos (byR_of h)]; exact q⟩
                have hd := Rp.frz fz hn qa
                have f1 := (fr.noR.trans (frz_fr (r := .cell j) s)).noR
                have q1 : ∀ b u, (frzW (.cell j) w' H').S b = some u → RdX H' b u := fun b u hb => by
                  have hb' : (if byR (.cell j) w'.own b = true then H' b else w'.S b) = some u := hb
                  split at hb'
                  · exact RdX.of hb'
                  · exact s.sle b u hb'
                have q2 : ∀ b t, (frzW (.cell j) w' H').own b = some t → (frzW (.cell j) w' H').S b = none ∧ Lv H' b := fun b t hb => by
                  have hb' := dropR_ne (x := b) (r := .cell j) (o := w'.own) (by rw [show dropR (.cell j) w'.own b = some t from hb]; simp)
                  cases z : w'.own b with
                  | none => exact absurd z hb'
                  | some t2 =>
                    refine ⟨?_, (s.sno b t2 z).2⟩
                    show (if byR (.cell j) w'.own b = true then H' b else w'.S b) = none
                    have nb : ¬ byR (.cell j) w'.own b = true := fun c => by
                      have : dropR (.cell j) w'.own b = some t := hb
                      rw [dropR_by c] at this; cases this
                    rw [if_neg nb]
                    exact (s.sno b t2 z).1
                have q3 : ∀ n d, n < n0 → (st.m.take n0)[n]? = some d → ∃ a, (frzW (.cell j) w' H').io[n]? = some a ∧ Rp W (frzW (.cell j) w' H') H' (.cell n) d none (.ref a) := fun n c' hn' hc => by
                  obtain ⟨b, eb, qb⟩ := s.cel n c' (cm n c' hn' hc)
                  exact ⟨b, eb, Rp.mono (frz_kp (by intro z; injection z with z; omega) s) qb⟩
                obtain ⟨f2, s2⟩ := cut_snd (W := W) (w1 := frzW (.cell j) w' H') (m' := st.m.take n0) f1 hio q1 q2 hlen q3 ht hml
                exact ⟨_, noR, f2, s2, Rp.of_sh hd⟩
              · cases he
        · cases h
      | _ =>
        simp only [handed] at h
        split at h
        · rename_i e' he
          split at he
          · rename_i hn
            cases he
            cases h
            exact frozen hn hv
          · cases he
        · cases h
  · cases h
end
end VS
/-! VS29b: parameters with defaults, bound. -/
namespace VS
open PySem PySem.Spec L2
open PyProof.Rows hiding St
theorem lookup_zip_at : ∀ {ps : List Str} {us : List Value} {i : Nat} (h : i < ps.length), ps.Nodup → (ps.zip us).lookup ps[i] = us[i]?
  | [], _, _, h, _ => by simp at h
  | p :: ps, [], i, _, _ => by simp
  | p :: ps, u :: us, 0, _, _ => by simp
  | p :: ps, u :: us, i + 1, h, hn => by
    simp only [List.nodup_cons] at hn
    have hi : i < ps.length := by simpa using h
    have ne : (ps[i] == p) = false := by
      rw [beq_eq_false_iff_ne]
      intro z
      exact hn.1 (by rw [← z]; exact List.getElem_mem hi)
    simp only [List.getElem_cons_succ, List.zip_cons_cons, List.lookup_cons, ne, List.getElem?_cons_succ]
    exact lookup_zip_at hi hn.2
theorem filterMap_at {f : Str → Option (Str × Value)} : ∀ {ps : List Str} {vs : List Value}, vs.length = ps.length → (∀ (i : Nat) (h : i < ps.length), f ps[i] = (vs[i]?).map fun v => (ps[i], v)) → ps.filterMap f = ps.zip vs
  | [], vs, _, _ => by simp
  | p :: ps, [], h, _ => by simp at h
  | p :: ps, v :: vs, h, hf => by
    have h0 := hf 0 (by simp)
    simp at h0
    have ih := filterMap_at (f := f) (ps := ps) (vs := vs) (by simpa using h) fun i hi => by
      have := hf (i + 1) (by simpa using hi)
      simpa using this
    rw [List.filterMap_cons, h0, List.zip_cons_cons, ih]
/-- the defaults' turn -/
def stepD (s : List (Str × Value)) (x : Str × Value) : List (Str × Value) := if (s.lookup x.1).isNone = true then s ++ [(x.1, x.2)] else s
theorem lookup_stepD (n : Str) (s : List (Str × Value)) (x : Str × Value) : (stepD s x).lookup n = (s.lookup n).or (if n = x.1 then some x.2 else none) := by
  unfold stepD
  by_cases h : (s.lookup x.1).isNone = true
  · rw [if_pos h, List.lookup_append]
    congr 1
    by_cases e : n = x.1
    · subst e; simp
    · have : (n == x.1) = false := by simpa using e
      simp [List.lookup_cons, this, e]
  · rw [if_neg h]
    by_cases e : n = x.1
    · subst e
      cases q : s.lookup x.1 with
      | none => rw [q] at h; simp at h
      | some v => simp
    · simp [e]
theorem lookup_foldD (n : Str) : ∀ (l : List (Str × Value)) (s : List (Str × Value)), (l.foldl stepD s).lookup n = (s.lookup n).or (l.lookup n)
  | [], s => by simp
  | x :: l, s => by
    rw [List.foldl_cons, lookup_foldD n l, lookup_stepD]
    obtain ⟨a, b⟩ := x
    simp only [List.lookup_cons]
    by_cases e : n = a
    · subst e
      cases s.lookup n <;> simp
    · have : (n == a) = false := by simpa using e
      rw [this]
      simp [e]
theorem forIn_D {l : List (Str × Value)} : ∀ {s : List (Str × Value)}, (forIn l s fun x r => if (r.lookup x.1).isNone = true then (pure (ForInStep.yield (r ++ [(x.1, x.2)])) : Sem (ForInStep (List (Str × Value)))) else pure (ForInStep.yield r)) = pure (l.foldl stepD s) := by
  induction l with
  | nil => intro s; simp
  | cons x l ih =>
    intro s
    rw [List.forIn_cons, List.foldl_cons]
    unfold stepD
    by_cases h : (s.lookup x.1).isNone = true
    · rw [if_pos h, if_pos h, pure_bind]; exact ih
    · rw [if_neg h, if_neg h, pure_bind]; exact ih
theorem bind_dfl {x qual : Str} {ar : List Arg} {body : List Stmt} {scope : Scope} {kV doc pm : Value} {an : Option Addr} {cdv ct : Value} {us its : List Value} {T : Addr} {df : List Expr}
   (nd : (ar.map (·.arg)).Nodup) (h1 : its.length ≤ ar.length) (h2 : ar.length ≤ us.length + its.length) (h3 : us.length ≤ ar.length) :
    ∃ k, bindArgs (PySem.W.fnOf x qual ⟨[], ar, none, [], [], none, df⟩ body scope (.ref T) kV doc pm an cdv ct) ⟨us, []⟩ = seqItems? (.ref T) >>= k ∧ k (some its.toArray) = pure ((ar.map (·.arg)).zip (us ++ its.drop (us.length + its.length - ar.length))) := by
  unfold bindArgs PySem.W.fnOf
  simp only [List.forIn_nil, pure_bind, List.forIn'_nil]
  refine ⟨_, rfl, ?_⟩
  have hn : ¬ us.length > (ar.map (·.arg)).length := by simp; omega
  simp only [List.map_nil, List.nil_append, Option.getD_some, hn, decide_false, Bool.false_and, Bool.false_eq_true, if_false, List.append_nil, pure_bind, bind_pure_comp]
  have hl : (ar.map (·.arg)).length = ar.length := by simp
  revert nd hl hn
  generalize ar.map (·.arg) = ps
  intro nd hn hl
  have e0 : its.length - ps.length = 0 := by omega
  rw [e0, List.drop_zero]
  have hm : ps.length - its.length ≤ us.length := by omega
  have miss : List.filter (fun n => (List.lookup n (ps.zip us)).isNone) (List.take (ps.length - its.length) ps) = [] := by
    rw [List.filter_eq_nil_iff]
    intro n hn2
    obtain ⟨i, hi, rfl⟩ := List.mem_iff_getElem.mp hn2
    have hi2 : i < ps.length - its.length := by simp at hi; omega
    have hi3 : i < ps.length := by omega
    rw [List.getElem_take, lookup_zip_at hi3 nd, List.getElem?_eq_getElem (by omega)]
    simp
  rw [miss]
  simp only [List.isEmpty_nil, Bool.not_true, Bool.false_eq_true, if_false, forIn_D, pure_bind, List.forIn_nil]
  congr 1
  refine filterMap_at (by simp; omega) fun i hi => ?_
  rw [lookup_foldD, lookup_zip_at hi nd]
  congr 1
  by_cases q : i < us.length
  · rw [List.getElem?_append_left q, List.getElem?_eq_getElem q]; simp
  · rw [List.getElem?_eq_none (by omega), Option.none_or, List.getElem?_append_right (by omega), List.getElem?_drop]
    have hd : ps.length - its.length + (i - (ps.length - its.length)) = i := by omega
    have hi4 : i - (ps.length - its.length) < (ps.drop (ps.length - its.length)).length := by simp; omega
    have e2 : ps[i] = (ps.drop (ps.length - its.length))[i - (ps.length - its.length)] := by
      rw [List.getElem_drop]; congr 1; omega
    rw [e2, lookup_zip_at hi4 ((List.drop_sublist _ _).nodup nd)]
    congr 1
    omega
end VS
/-! VS29c: functions that are run where no repr is under way. -/
namespace VS
open PySem PySem.Spec L2
open PyProof.Rows hiding St
structure Rm (k : Nat) (A : Around) : Prop where
  r : Room k A
  g : A.guards = some []
theorem Rm.mono {j k : Nat} {A : Around} (h : Rm k A) (l : j ≤ k) : Rm j A := ⟨h.r.mono l, h.g⟩
theorem Rm.deeper {k : Nat} {A : Around} (h : Rm (k + 1) A) (env : Env) : Rm k (A.deeper env) := ⟨h.r.deeper env, h.g⟩
theorem Rm.make {k : Nat} {A : Around} (h : Rm (k + 1) A) (C : Addr) (us : List Value) (kw : List (Str × Value)) : Rm k (A.under (Code.builtin "type.__call__" { pos := Value.ref C :: us, kw := kw })) :=
  ⟨h.r.make C us kw, by rw [← h.g]; rfl⟩
structure FnG (P : Program) (w : World) (K : PySem.W.Frag) (mg : Str → Option Value) (base : Heap) (CX : CXT) (k : Nat) (f : Addr) (fd : FuncData) (ps : List Str) (sp : Sp) : Prop where
  len : ∀ (vs : List V) (H : Hp) (Q : VK) (E : XK), sp vs H Q E → vs.length = ps.length
  run : ∀ (A : Around) (outer : List Env) (s : Shared) (H : Hp) (args : Args) (us : List Value) (vs : List V) (Q : VK) (E : XK),
    Rm k A → Env0 P w K mg base A outer s H → BindsTo s fd args (ps.zip us) → Vals vs us → sp vs H Q E → codeAny (model P w) A (Code.call (Value.ref f) args) (CR CX outer P w H s Q E) s
theorem fn_ofG {CX : CXT} {P : Program} {w : World} {K : PySem.W.Frag} {mg : Str → Option Value} {base : Heap} {k : Nat} {f : Addr} {name qual : Str} {params : Arguments} {body : List Stmt} {scope : Scope} {dV kV doc pm cdv ct oc : Value} {an od : Option Addr} {osl : Array (Option Value)} {N ps : List Str} {sp : Sp}
    (lk : List.lookup f K = some { cls := oc, dict := od, data := Data.func (PySem.W.fnOf name qual params body scope dV kV doc pm an cdv ct), slots := osl }) (hcd : PySem.W.codeIn K cdv qual = true) (S : FnScope N ps scope)
    (len : ∀ (vs : List V) (H : Hp) (Q : VK) (E : XK), sp vs H Q E → vs.length = ps.length)
    (hbody : ∀ (A : Around) (outer : List Env) (s : Shared) (H : Hp) (vs : List V) (Q : VK) (E : XK), Rm k (A.deeper (PyProof.Rows.envOfC qual scope s.heap.objs.size f cdv)) → sp vs H Q E →
      ∃ t, PSs (cxOf CX P w K mg base N qual scope f cdv A outer s H E) body t ∧ t { nx := fun x H' => Q V.non H', rt := Q } (L2.start N vs) H) :
    FnG P w K mg base CX (k + 1) f (PySem.W.fnOf name qual params body scope dV kV doc pm an cdv ct) ps sp := by
  refine ⟨len, fun A outer s H args us vs Q E hr e0 hb r hsp => ?_⟩
  have hl := len vs H Q E hsp
  have KX := PySem.W.Frag.In.keeps e0.mod.kin fun b o e => (e0.bs b o e).left
  have lim := Heap.NoLimit.keeps e0.mod.nolimit fun b o e => (e0.bs b o e).left
  refine codeAny_call_function (Room.depth hr.r) (KX f _ lk) rfl S.co S.gen rfl (PySem.W.codeRec_of KX hcd) ?_
  refine hb (model P w) A.in1 (fun e s' => CR CX outer P w H s Q E (Except.error e) s') _ ?_
  refine wpAny_newFunctionEnv_cells S.kind (fun x hy => ?_) fun env he s1 x => ?_
  · obtain ⟨n, v⟩ := x
    exact (S.par n (List.of_mem_zip hy).left).elim Or.inl fun q => Or.inr ⟨q, PySem.W.cellsFrom_some scope.names (s.heap.objs.size + 1) [] (Or.inl q)⟩
  subst he
  refine ⟨Heap.NoLimit.keeps lim x.toInCall.keep, codeAny_func ?_⟩
  obtain ⟨t, ht, hq⟩ := hbody A outer s H vs Q E (hr.deeper (PyProof.Rows.envOfC qual scope s.heap.objs.size f cdv)) hsp
  have I := inv_start (CX := CX) (E := E) S hr.r.hd e0 hl r x
  refine wpAny_mono (ht.run [] s1 (L2.start N vs) H { nx := fun x H' => Q V.non H', rt := Q } I hq) (fun fl s' hs => ?_) fun e s' hs => hs
  cases fl with
  | next =>
    obtain ⟨σ', H', J, q⟩ := hs
    exact ⟨V.non, _, J.os, J.bare, J.base, J.hok, rfl, q⟩
  | brk =>
    obtain ⟨_, _, _, q⟩ := hs
    exact False.elim q
  | cont =>
    obtain ⟨_, _, _, q⟩ := hs
    exact False.elim q
  | ret u =>
    obtain ⟨v, σ', H', J, rv, q⟩ := hs
    exact ⟨_, _, J.os, J.bare, J.base, J.hok, rv, q⟩
theorem FunD.okG {P : Program} {w : World} {K : PySem.W.Frag} {mg : Str → Option Value} {base : Heap} {x qual : Str} {params : Arguments} {body : List Stmt} {scope : Scope} {dvs : List V} {kws : List (Str × V)} {f : Addr} {fd : FuncData} {CX : CXT} {N ps : List Str} {k : Nat} {sp : Sp}
    (F : FunD K x qual params body scope dvs kws f fd) (S : FnScope N ps scope) (len : ∀ (vs : List V) (H : Hp) (Q : VK) (E : XK), sp vs H Q E → vs.length = ps.length)
    (hbody : ∀ (cdv : Value) (A : Around) (outer : List Env) (s : Shared) (H : Hp) (vs : List V) (Q : VK) (E : XK), Rm k (A.deeper (PyProof.Rows.envOfC qual scope s.heap.objs.size f cdv)) → sp vs H Q E →
      ∃ t, PSs (cxOf CX P w K mg base N qual scope f cdv A outer s H E) body t ∧ t { nx := fun x H' => Q V.non H', rt := Q } (L2.start N vs) H) :
    FnG P w K mg base CX (k + 1) f fd ps sp := by
  obtain ⟨oc, od, dV, kV, doc, pm, an, cdv, ct, osl, rfl, lk, hcd, _, _⟩ := F.ex
  exact fn_ofG lk hcd S len fun A outer s H vs Q E hr hsp => hbody cdv A outer s H vs Q E hr hsp
theorem run_fnSDG {X : Cx} {CX : CXT} {k : Nat} {f : Addr} {fd : FuncData} {ps : List Str} {sp : Sp} {dvs : List V} {ds : List Value} {E : L2.St → XK} {pins : List (Addr × Obj)} {σ : L2.St} {H : Hp} {s : Shared} {Q : VK} {us : List Value} {vs : List V}
    (F : FnG X.prog X.w X.K X.mg X.base CX k f fd ps sp) (hr : Rm k X.A) (hb : Binds X.K fd ps ds) (hd : Vals dvs ds) (hx : PassesAt CX X σ (E σ)) (I : Inv X pins σ H s) (r : Vals vs us) (h : sp (vs ++ dvs) H Q (E σ)) :
    wpAny (model X.prog X.w) X.A (call (Value.ref f) us) (EP X pins σ Q) X.xe s := by
  have r2 := r.append hd
  have hl : (us ++ ds).length = ps.length := by
    rw [← r2.length]
    exact F.len (vs ++ dvs) H Q (E σ) h
  refine wpAny_call (codeAny_mono (F.run X.A X.stack s H { pos := us } (us ++ ds) (vs ++ dvs) Q (E σ) hr I.env0 (hb s us I.kIn hl) r2 h) fun r s' hq => ?_)
  match r, hq with
  | .error e, hq => exact hx pins H s e s' I hq
  | .ok (.ret u), hq => exact I.after hq
  | .ok .next, hq => exact False.elim hq
  | .ok .brk, hq => exact False.elim hq
  | .ok .cont, hq => exact False.elim hq
/-- where something may be handled -/
structure RmH (k : Nat) (A : Around) : Prop where
  dp : A.depth + 3 * k + 5 < recursionLimit
  un : A.units + 16 * k + 200 < cLine
  g : A.guards = some []
theorem RmH.mono {j k : Nat} {A : Around} (h : RmH k A) (l : j ≤ k) : RmH j A := ⟨by have := h.dp; omega, by have := h.un; omega, h.g⟩
theorem RmH.deeper {k : Nat} {A : Around} (h : RmH (k + 1) A) (env : Env) : RmH k (A.deeper env) := ⟨by have := h.dp; show A.depth + 1 + 3 * k + 5 < _; omega, by have := h.un; show A.units + 3 + 16 * k + 200 < _; omega, h.g⟩
theorem RmH.depth {k : Nat} {A : Around} (h : RmH k A) : A.depth < recursionLimit := by have := h.dp; omega
/-- a body that is run where something may be handled -/
abbrev cxN (CX : CXT) (P : Program) (w : World) (K : PySem.W.Frag) (mg : Str → Option Value) (base : Heap) (N : List Str) (qual : Str) (scope : Scope) (f : Addr) (cd : Value) (A : Around) (outer : List Env) (s : Shared) (H : Hp) (E : XK) : Cx :=
  { cxOf CX P w K mg base N qual scope f cd A outer s H E with calm := false }
theorem inv_startN {CX : CXT} {P : Program} {w : World} {K : PySem.W.Frag} {mg : Str → Option Value} {base : Heap} {N ps : List Str} {qual : Str} {scope : Scope} {f : Addr} {cd : Value} {A : Around} {outer : List Env} {s s1 : Shared} {H : Hp} {E : XK} {us : List Value} {vs : List V}
    (S : FnScope N ps scope) (e0 : Env0 P w K mg base A outer s H) (hl : vs.length = ps.length) (r : Vals vs us)
    (x : InCallC s s.heap.objs.size (bindL (PyProof.Rows.envOfC qual scope s.heap.objs.size f cd).kindOf (ps.zip us) fun _ => none) (cellsFrom (s.heap.objs.size + 1) scope.names []) (bindC (PyProof.Rows.envOfC qual scope s.heap.objs.size f cd).kindOf (ps.zip us) fun _ => none) s1) :
    Inv (cxN CX P w K mg base N qual scope f cd A outer s H E) [] (L2.start N vs) H s1 := by
  have e1 : Env0 P w K mg base { A with handled := none } outer s H := ⟨e0.frames, e0.mod, e0.bs, e0.bsz, e0.funs, e0.frf, e0.hok, e0.bare⟩
  have I := inv_start (CX := CX) (E := E) S rfl e1 hl r x
  have ok := I.ok
  exact ⟨⟨ok.mod, ok.kind, ok.glob, ok.blt, ok.above, ok.inj, ok.has, ok.cab, fun h => (nomatch h), ok.frames, ok.stk, ok.exf, ok.bs, ok.bsz, ok.noex, ok.exfs, ok.funs, ok.frf⟩, I.os, I.bare, I.base, I.loc, I.cell, I.free, I.freeC, I.pin, I.hok, I.len⟩
structure FnGH (P : Program) (w : World) (K : PySem.W.Frag) (mg : Str → Option Value) (base : Heap) (CX : CXT) (k : Nat) (f : Addr) (fd : FuncData) (ps : List Str) (sp : Sp) : Prop where
  len : ∀ (vs : List V) (H : Hp) (Q : VK) (E : XK), sp vs H Q E → vs.length = ps.length
  run : ∀ (A : Around) (outer : List Env) (s : Shared) (H : Hp) (args : Args) (us : List Value) (vs : List V) (Q : VK) (E : XK),
    RmH k A → Env0 P w K mg base A outer s H → BindsTo s fd args (ps.zip us) → Vals vs us → sp vs H Q E → codeAny (model P w) A (Code.call (Value.ref f) args) (CR CX outer P w H s Q E) s
theorem fn_ofGH {CX : CXT} {P : Program} {w : World} {K : PySem.W.Frag} {mg : Str → Option Value} {base : Heap} {k : Nat} {f : Addr} {name qual : Str} {params : Arguments} {body : List Stmt} {scope : Scope} {dV kV doc pm cdv ct oc : Value} {an od : Option Addr} {osl : Array (Option Value)} {N ps : List Str} {sp : Sp}
    (lk : List.lookup f K = some { cls := oc, dict := od, data := Data.func (PySem.W.fnOf name qual params body scope dV kV doc pm an cdv ct), slots := osl }) (hcd : PySem.W.codeIn K cdv qual = true) (S : FnScope N ps scope)
    (len : ∀ (vs : List V) (H : Hp) (Q : VK) (E : XK), sp vs H Q E → vs.length = ps.length)
    (hbody : ∀ (A : Around) (outer : List Env) (s : Shared) (H : Hp) (vs : List V) (Q : VK) (E : XK), RmH k (A.deeper (PyProof.Rows.envOfC qual scope s.heap.objs.size f cdv)) → sp vs H Q E →
      ∃ t, PSs (cxN CX P w K mg base N qual scope f cdv A outer s H E) body t ∧ t { nx := fun x H' => Q V.non H', rt := Q } (L2.start N vs) H) :
    FnGH P w K mg base CX (k + 1) f (PySem.W.fnOf name qual params body scope dV kV doc pm an cdv ct) ps sp := by
  refine ⟨len, fun A outer s H args us vs Q E hr e0 hb r hsp => ?_⟩
  have hl := len vs H Q E hsp
  have KX := PySem.W.Frag.In.keeps e0.mod.kin fun b o e => (e0.bs b o e).left
  have lim := Heap.NoLimit.keeps e0.mod.nolimit fun b o e => (e0.bs b o e).left
  refine codeAny_call_function hr.depth (KX f _ lk) rfl S.co S.gen rfl (PySem.W.codeRec_of KX hcd) ?_
  refine hb (model P w) A.in1 (fun e s' => CR CX outer P w H s Q E (Except.error e) s') _ ?_
  refine wpAny_newFunctionEnv_cells S.kind (fun x hy => ?_) fun env he s1 x => ?_
  · obtain ⟨n, v⟩ := x
    exact (S.par n (List.of_mem_zip hy).left).elim Or.inl fun q => Or.inr ⟨q, PySem.W.cellsFrom_some scope.names (s.heap.objs.size + 1) [] (Or.inl q)⟩
  subst he
  refine ⟨Heap.NoLimit.keeps lim x.toInCall.keep, codeAny_func ?_⟩
  obtain ⟨t, ht, hq⟩ := hbody A outer s H vs Q E (hr.deeper (PyProof.Rows.envOfC qual scope s.heap.objs.size f cdv)) hsp
  have I := inv_startN (CX := CX) (E := E) S e0 hl r x
  refine wpAny_mono (ht.run [] s1 (L2.start N vs) H { nx := fun x H' => Q V.non H', rt := Q } I hq) (fun fl s' hs => ?_) fun e s' hs => hs
  cases fl with
  | next =>
    obtain ⟨σ', H', J, q⟩ := hs
    exact ⟨V.non, _, J.os, J.bare, J.base, J.hok, rfl, q⟩
  | brk =>
    obtain ⟨_, _, _, q⟩ := hs
    exact False.elim q
  | cont =>
    obtain ⟨_, _, _, q⟩ := hs
    exact False.elim q
  | ret u =>
    obtain ⟨v, σ', H', J, rv, q⟩ := hs
    exact ⟨_, _, J.os, J.bare, J.base, J.hok, rv, q⟩
theorem FunD.okGH {P : Program} {w : World} {K : PySem.W.Frag} {mg : Str → Option Value} {base : Heap} {x qual : Str} {params : Arguments} {body : List Stmt} {scope : Scope} {dvs : List V} {kws : List (Str × V)} {f : Addr} {fd : FuncData} {CX : CXT} {N ps : List Str} {k : Nat} {sp : Sp}
    (F : FunD K x qual params body scope dvs kws f fd) (S : FnScope N ps scope) (len : ∀ (vs : List V) (H : Hp) (Q : VK) (E : XK), sp vs H Q E → vs.length = ps.length)
    (hbody : ∀ (cdv : Value) (A : Around) (outer : List Env) (s : Shared) (H : Hp) (vs : List V) (Q : VK) (E : XK), RmH k (A.deeper (PyProof.Rows.envOfC qual scope s.heap.objs.size f cdv)) → sp vs H Q E →
      ∃ t, PSs (cxN CX P w K mg base N qual scope f cdv A outer s H E) body t ∧ t { nx := fun x H' => Q V.non H', rt := Q } (L2.start N vs) H) :
    FnGH P w K mg base CX (k + 1) f fd ps sp := by
  obtain ⟨oc, od, dV, kV, doc, pm, an, cdv, ct, osl, rfl, lk, hcd, _, _⟩ := F.ex
  exact fn_ofGH lk hcd S len fun A outer s H vs Q E hr hsp => hbody cdv A outer s H vs Q E hr hsp
theorem run_fnSDGH {X : Cx} {CX : CXT} {k : Nat} {f : Addr} {fd : FuncData} {ps : List Str} {sp : Sp} {dvs : List V} {ds : List Value} {E : L2.St → XK} {pins : List (Addr × Obj)} {σ : L2.St} {H : Hp} {s : Shared} {Q : VK} {us : List Value} {vs : List V}
    (F : FnGH X.prog X.w X.K X.mg X.base CX k f fd ps sp) (hr : RmH k X.A) (hb : Binds X.K fd ps ds) (hd : Vals dvs ds) (hx : PassesAt CX X σ (E σ)) (I : Inv X pins σ H s) (r : Vals vs us) (h : sp (vs ++ dvs) H Q (E σ)) :
    wpAny (model X.prog X.w) X.A (call (Value.ref f) us) (EP X pins σ Q) X.xe s := by
  have r2 := r.append hd
  have hl : (us ++ ds).length = ps.length := by
    rw [← r2.length]
    exact F.len (vs ++ dvs) H Q (E σ) h
  refine wpAny_call (codeAny_mono (F.run X.A X.stack s H { pos := us } (us ++ ds) (vs ++ dvs) Q (E σ) hr I.env0 (hb s us I.kIn hl) r2 h) fun r s' hq => ?_)
  match r, hq with
  | .error e, hq => exact hx pins H s e s' I hq
  | .ok (.ret u), hq => exact I.after hq
  | .ok .next, hq => exact False.elim hq
  | .ok .brk, hq => exact False.elim hq
  | .ok .cont, hq => exact False.elim hq
end VS
/-! VS30: the promise of a function; a call by it; a function by its body. -/
namespace VS
open PySem PySem.Spec L2
open PyProof.Rows hiding St
/-- C(..), what it lets out wished for at the names as they are -/
theorem run_makeAt {X : Cx} {CX : CXT} {lv : Nat} {g C : Addr} {gd : FuncData} {pl : List Str} {pr : Sp} {xvs : List V} {xs : List Value} {Ew : XK} {pins : List (Addr × Obj)} {τ : L2.St} {G : Hp} {z : Shared} {Qw : VK} {as : List Value} {avs : List V}
    (M : Mk X.K C g) (F : FnG X.prog X.w X.K X.mg X.base CX lv g gd pl pr) (room : Rm (lv + 1) X.A) (bi : Binds X.K gd pl xs) (dv : Vals xvs xs) (px : PassesAt CX X τ Ew) (J : Inv X pins τ G z) (rv : Vals avs as)
    (go : ∀ x dx, G x = none → G dx = none → dx ≠ x → pr (.ref x :: (avs ++ xvs)) (upd (upd G dx (.own x)) x (.ins C dx [])) (fun v G2 => v = .non ∧ Qw (.ref x) G2) Ew) :
    wpAny (model X.prog X.w) X.A (call (.ref C) as) (EP X pins τ Qw) X.xe z := by
  have want := go (z.heap.objs.size + 1) z.heap.objs.size (J.hok.fresh (Nat.le_succ _)) (J.hok.fresh (Nat.le_refl _)) (Nat.ne_of_lt (Nat.lt_succ_self _))
  have J2 := Inv.made (C := C) J
  have rv2 : Vals (V.ref (z.heap.objs.size + 1) :: (avs ++ xvs)) (Value.ref (z.heap.objs.size + 1) :: (as ++ xs)) := .cons rfl (rv.append dv)
  have many : (Value.ref (z.heap.objs.size + 1) :: as ++ xs).length = pl.length := by
    have e1 := rv2.length
    rw [F.len _ _ _ _ want] at e1
    exact e1.symm
  refine wpAny_call (make_map (f := g) J.kIn M.makes M.init (beq_iff_eq.mp M.fn) (codeAny_mono (F.run _ X.stack _ _ ⟨Value.ref (z.heap.objs.size + 1) :: as, []⟩ (Value.ref (z.heap.objs.size + 1) :: (as ++ xs)) _ _ Ew (room.make C as [])
    (J2.env0.make C as []) (bi _ (Value.ref (z.heap.objs.size + 1) :: as) J2.kIn many) rv2 want) fun rr z2 hz => ?_))
  match rr, hz with
  | .error ee, hz => exact px pins _ _ ee z2 J2 hz
  | .ok (.ret uu), hz =>
    obtain ⟨vv, G', J3, r3, ev, q3⟩ := J2.after hz
    subst ev
    exact ⟨r3, ⟨V.ref (z.heap.objs.size + 1), G', J3, rfl, q3⟩⟩
  | .ok .next, hz => exact False.elim hz
  | .ok .brk, hz => exact False.elim hz
  | .ok .cont, hz => exact False.elim hz
def PostC (W : Wd) (w : Wh) (R : Own) (H : Hp) (Q : VK) (E : XK) : Rr → Prop
  | .ok d m => ∀ w' R' H' v, Fr ⟨w.S, ownU w.own R, w.io⟩ H w' R' H' → SRep W w' H' [] ⟨[], m⟩ → Rp W (w'.wth R') H' (.temp 0) d none v → Q v H'
  | .ex x m => ∀ w' H' dd vs, Fr ⟨w.S, ownU w.own R, w.io⟩ H w' VS.noR H' → SRep W w' H' [] ⟨[], m⟩ → RpSL W w'.S x.xs vs → w'.S dd = some (.xd (zipK (x.ns.map sn) vs)) → x.ns.length = vs.length ∧ x.c ∈ W.xs → E (.ref (W.cls x.c)) (some dd) H'
  | .bad => False
def HeldOk (w : Wh) (R : Own) (H : Hp) : Prop := ∀ x, R x ≠ none → w.own x = none ∧ w.S x = none ∧ Lv H x
def spF (W : Wd) (n : Nat) (g : List D → Mem → Rr) : Sp := fun vs H Q E => vs.length = n ∧ ∃ w R ds m, SRep W w H [] ⟨[], m⟩ ∧ HeldOk w R H ∧ RpT W (w.wth R) H 0 ds vs ∧ PostC W w R H Q E (g ds m)
section
variable {W : Wd} {w w1 w2 w0 : Wh} {H H1 H2 H0 : Hp} {R Ra Rb R1 : Own} {σ : L2.St} {st st' : Sg} {Q : VK}
/-- what cells hold; what names hold -/
def isCell : Ix → Bool
  | .cell _ => true
  | _ => false
def cellsO (o : Own) : Own := fun x => match o x with
  | some (r, p) => if isCell r then some (r, p) else none
  | none => none
def slotsO (o : Own) : Own := fun x => match o x with
  | some (r, p) => if isCell r then none else some (r, p)
  | none => none
theorem cellsO_ne {o : Own} {x : Addr} (h : cellsO o x ≠ none) : ∃ t, o x = some t ∧ isCell t.1 = true := by
  unfold cellsO at h
  cases e : o x with
  | none => rw [e] at h; exact absurd rfl h
  | some t =>
    rw [e] at h
    by_cases c : isCell t.1 = true
    · exact ⟨t, rfl, c⟩
    · exact absurd (if_neg c) h
theorem slotsO_ne {o : Own} {x : Addr} (h : slotsO o x ≠ none) : ∃ t, o x = some t ∧ isCell t.1 = false := by
  unfold slotsO at h
  cases e : o x with
  | none => rw [e] at h; exact absurd rfl h
  | some t =>
    rw [e] at h
    by_cases c : isCell t.1 = true
    · exact absurd (if_pos c) h
    · exact ⟨t, rfl, by simpa using c⟩
theorem cellsO_some {o : Own} {x : Addr} {n : Nat} {p : Ps} (h : o x = some (.cell n, p)) : cellsO o x = some (.cell n, p) := by unfold cellsO; rw [h]; rfl
theorem slotsO_some {o : Own} {x : Addr} {n : Nat} {p : Ps} (h : o x = some (.slot n, p)) : slotsO o x = some (.slot n, p) := by unfold slotsO; rw [h]; rfl
theorem slotsO_none {o : Own} {x : Addr} (h : o x = none) : slotsO o x = none := by unfold slotsO; rw [h]
theorem Fr.left {w0 : Wh} (f : Fr w H w1 R1 H1) (hS : w0.S = w.S) (hio : w0.io = w.io) (ho : ∀ x, w0.own x = none ↔ w.own x = none) : Fr w0 H w1 R1 H1 := by
  have ne : ∀ x, w.own x ≠ none → w0.own x ≠ none := fun x h z => h ((ho x).mp z)
  refine ⟨fun a u h => f.S a u (by rw [← hS]; exact h), fun n a h => f.io n a (by rw [← hio]; exact h), fun x h => (f.dom x h).imp (ne x) id, fun x h => (f.domR x h).imp (ne x) id, fun x h => ?_, fun x u n h => f.keep x u ((ho x).mp n) h, f.R⟩
  rcases f.Sd x h with q | q | q
  · exact .inl (by rw [hS]; exact q)
  · exact .inr (.inl (ne x q))
  · exact .inr (.inr q)
/-- what is held comes to the state's own -/
theorem Fr.absorb (f : Fr w H w1 R1 H1) : Fr w H ⟨w1.S, ownU w1.own R1, w1.io⟩ VS.noR H1 :=
  ⟨f.S, f.io, fun x h => (ownU_ne h).elim (f.dom x) (f.domR x), fun _ h => absurd rfl h, f.Sd, f.keep, fun _ h => absurd rfl h⟩
/-- the caller's names come back -/
theorem ret_of {w w1 w' : Wh} {H H1 H' : Hp} {R R' : Own} {σ : L2.St} {st : Sg} {m' : Mem} (fr : Fr w H w1 R H1) (sr : SRep W w1 H1 σ st) (f' : Fr ⟨w1.S, ownU (cellsO w1.own) R, w1.io⟩ H1 w' R' H') (s' : SRep W w' H' [] ⟨[], m'⟩) :
    Fr w H ⟨w'.S, ownU (slotsO w1.own) w'.own, w'.io⟩ R' H' ∧ SRep W ⟨w'.S, ownU (slotsO w1.own) w'.own, w'.io⟩ H' σ ⟨st.sl, m'⟩ := by
  -- the state put together again
  have nosl : ∀ x, (w'.own x ≠ none ∨ R' x ≠ none ∨ w'.S x ≠ none) → slotsO w1.own x = none := fun x hx => by
    cases e : slotsO w1.own x with
    | none => rfl
    | some t =>
      exfalso
      obtain ⟨t2, e2, c2⟩ := slotsO_ne (o := w1.own) (x := x) (by rw [e]; simp)
      have hs := sr.sno x t2 e2
      have hne : ownU (cellsO w1.own) R x = none := by
        rw [ownU_right]
        · cases eR : R x with
          | none => rfl
          | some t3 => have := (fr.R x (by rw [eR]; simp)).1; rw [this] at e2; cases e2
        · unfold cellsO; rw [e2]; simp [c2]
      rcases hx with hx | hx | hx
      · rcases f'.dom x hx with q | q
        · exact q hne
        · exact hs.2.ne q
      · rcases f'.domR x hx with q | q
        · exact q hne
        · exact hs.2.ne q
      · rcases f'.Sd x hx with q | q | q
        · exact q hs.1
        · exact q hne
        · exact q hs.2
  have notc : ∀ x t, slotsO w1.own x = some t → ownU (cellsO w1.own) R x = none := fun x t e => by
    obtain ⟨t2, e2, c2⟩ := slotsO_ne (o := w1.own) (x := x) (by rw [e]; simp)
    rw [ownU_right]
    · cases eR : R x with
      | none => rfl
      | some t3 => have := (fr.R x (by rw [eR]; simp)).1; rw [this] at e2; cases e2
    · unfold cellsO; rw [e2]; simp [c2]
  have fall : Fr w H ⟨w'.S, ownU (slotsO w1.own) w'.own, w'.io⟩ R' H' := by
    have f1 : Fr ⟨w1.S, ownU w1.own R, w1.io⟩ H1 ⟨w'.S, ownU (slotsO w1.own) w'.own, w'.io⟩ R' H' := by
      have up : ∀ x, ownU (cellsO w1.own) R x ≠ none → ownU w1.own R x ≠ none := fun x h => by
        rcases ownU_ne h with q | q
        · obtain ⟨t, e, _⟩ := cellsO_ne q
          rw [ownU_left e]; simp
        · rw [ownU_right (fr.R x q).1]; exact q
      refine ⟨f'.S, f'.io, fun x h => ?_, fun x h => (f'.domR x h).imp (up x) id, fun x h => ?_, fun x u n h => f'.keep x u ?_ h, fun x h => ⟨?_, (f'.R x h).2⟩⟩
      · rcases ownU_ne h with q | q
        · obtain ⟨t, e, _⟩ := slotsO_ne q
          exact .inl (by show ownU w1.own R x ≠ none; rw [ownU_left e]; simp)
        · exact (f'.dom x q).imp (up x) id
      · rcases f'.Sd x h with q | q | q
        · exact .inl q
        · exact .inr (.inl (up x q))
        · exact .inr (.inr q)
      · by_cases z : ownU (cellsO w1.own) R x = none
        · exact z
        · exact absurd n (up x z)
      · show ownU (slotsO w1.own) w'.own x = none
        rw [ownU_right (nosl x (.inr (.inl h)))]; exact (f'.R x h).1
    exact (fr.absorb.trans f1).less fun x hx => by unfold ownU; exact hx
  refine ⟨fall, ⟨s'.sle, fun a t h => ?_, s'.iol, fun n c h => ?_, fun i c h => ?_, sr.len⟩⟩
  · have h' : ownU (slotsO w1.own) w'.own a ≠ none := by rw [show ownU (slotsO w1.own) w'.own a = some t from h]; simp
    rcases ownU_ne h' with q | q
    · have hS : w'.S a = none := by
        cases e : w'.S a with
        | none => rfl
        | some u => exact absurd (nosl a (.inr (.inr (by rw [e]; simp)))) q
      cases e : slotsO w1.own a with
      | none => exact absurd e q
      | some t2 =>
        obtain ⟨t3, e3, _⟩ := slotsO_ne (o := w1.own) (x := a) q
        refine ⟨hS, ?_⟩
        exact (sr.sno a t3 e3).2.keep fun u eH => f'.keep a u (notc a _ e) eH
    · cases e : w'.own a with
      | none => exact absurd e q
      | some t2 => exact s'.sno a t2 e
  · obtain ⟨a, e, q⟩ := s'.cel n c h
    exact ⟨a, e, Rp.mono (w := w') (w' := ⟨w'.S, ownU (slotsO w1.own) w'.own, w'.io⟩) ⟨SLe.refl _, fun _ _ h => h, fun b p hb => by
      show ownU (slotsO w1.own) w'.own b = _
      rw [ownU_right (nosl b (.inl (by rw [hb]; simp)))]; exact hb, fun _ _ _ _ h => h⟩ q⟩
  · obtain ⟨u, e, q⟩ := sr.slo i c h
    exact ⟨u, e, Rp.mono (w := w1) (w' := ⟨w'.S, ownU (slotsO w1.own) w'.own, w'.io⟩) ⟨f'.S, f'.io, fun b p hb => ownU_left (slotsO_some hb), fun b p u hb e => f'.keep b u (notc b _ (slotsO_some hb)) e⟩ q⟩

/-- plain data -/
def scB : D → Bool
  | .non => true
  | .bl _ => true
  | .int _ => true
  | .str _ => true
  | _ => false
def dV : D → V
  | .bl b => .bl b
  | .int i => .int i
  | .str l => .str (cps l)
  | _ => .non
theorem scB_rp {w : Wh} {H : Hp} {r : Ix} {d : D} {p : Ps} (h : scB d = true) : Rp W w H r d p (dV d) := by
  cases d with
  | non => simp only [Rp]; rfl
  | bl b => simp only [Rp]; rfl
  | int i => simp only [Rp]; rfl
  | str l => simp only [Rp]; rfl
  | _ => cases h
theorem RpT.fill {w : Wh} {H : Hp} {fl : List D} (hf : fl.all scB = true) : ∀ {ds : List D} {j : Nat} {vs : List V}, RpT W w H j ds vs → RpT W w H j (ds ++ fl) (vs ++ fl.map dV)
  | [], j, vs, h => by
    simp only [RpT] at h
    subst h
    simp only [List.nil_append]
    revert j
    induction fl with
    | nil => intro j; simp only [List.map_nil, RpT]
    | cons d fl ih =>
      intro j
      simp only [List.all_cons, Bool.and_eq_true] at hf
      simp only [List.map_cons, RpT]
      exact ⟨_, _, rfl, scB_rp hf.1, ih hf.2 (j + 1)⟩
  | d :: ds, j, vs, h => by
    simp only [RpT] at h
    obtain ⟨v, s, rfl, q, t⟩ := h
    simp only [List.cons_append, RpT]
    exact ⟨v, _, rfl, q, RpT.fill hf t⟩
def fillD (dfl : List D) (np n : Nat) : List D := dfl.drop (n + dfl.length - np)
/-- how a function binds its parameters -/
structure BindsD (K : PySem.W.Frag) (fd : FuncData) (ps : List Str) (dfl : List D) : Prop where
  sc : dfl.all scB = true
  to : ∀ n, n ≤ ps.length → ps.length ≤ n + dfl.length → ∃ us : List Value, Vals ((fillD dfl ps.length n).map dV) us ∧ Binds K fd ps us
/-- what a function asks of its arguments' number -/
def Fills (np : Nat) (dfl : List D) (g : List D → Mem → Rr) : Prop := ∀ ds m, g ds m ≠ .bad → ds.length ≤ np ∧ np ≤ ds.length + dfl.length ∧ g ds m = g (ds ++ fillD dfl np ds.length) m
theorem fillD_len {dfl : List D} {np n : Nat} (h1 : n ≤ np) (h2 : np ≤ n + dfl.length) : (fillD dfl np n).length = np - n := by
  unfold fillD; rw [List.length_drop]; omega
theorem fillD_sc {dfl : List D} {np n : Nat} (h : dfl.all scB = true) : (fillD dfl np n).all scB = true := by
  unfold fillD
  rw [List.all_eq_true] at h ⊢
  exact fun x hx => h x (List.mem_of_mem_drop hx)
/-- a call, by the promise -/
theorem call_of {g : List D → Mem → Rr} {X : Cx} {E : L2.WX} {k : Nat} {fa : Addr} {fd : FuncData} {ps : List Str} {dfl : List D} (tk : Takes X E) (F : FnG X.prog X.w X.K X.mg X.base (L2.CX X.prog X.w) k fa fd ps (spF W ps.length g)) (hr : Rm k X.A) (hb : BindsD X.K fd ps dfl)
    (hg : Fills ps.length dfl g) : CallS X (.ref fa) (rCal W E g) := by
  intro pins s σ H1 vs us Q I r h
  obtain ⟨w, H, w1, R, ds, st, fr, sr, hT, hP⟩ := h
  have hne : g ds st.m ≠ .bad := fun z => by rw [z] at hP; exact hP
  obtain ⟨g1, g2, g3⟩ := hg _ _ hne
  obtain ⟨du, hdu, hbi⟩ := hb.to ds.length g1 g2
  refine run_fnSDG (vs := vs) (ds := du) (dvs := (fillD dfl ps.length ds.length).map dV) (E := WE E) F hr hbi hdu (passAt tk σ) I r ?_
  have hT2 := RpT.fill (fillD_sc (np := ps.length) (n := ds.length) hb.sc) hT
  refine ⟨?_, ⟨w1.S, cellsO w1.own, w1.io⟩, R, _, st.m, ⟨sr.sle, fun a t h => ?_, sr.iol, fun n d h => ?_, fun i d h => ?_, rfl⟩, fun x h => ⟨?_, (fr.R x h).2⟩, hT2, ?_⟩
  · have := fillD_len (dfl := dfl) g1 g2
    rw [List.length_append, List.length_map, this, ← hT.len]; omega
  · obtain ⟨t2, e, _⟩ := cellsO_ne (o := w1.own) (x := a) (by rw [show cellsO w1.own a = some t from h]; simp)
    exact sr.sno a t2 e
  · obtain ⟨a, e, q⟩ := sr.cel n d h
    exact ⟨a, e, Rp.mono (w := w1) (w' := ⟨w1.S, cellsO w1.own, w1.io⟩) ⟨SLe.refl _, fun _ _ h => h, fun b p hb => cellsO_some hb, fun _ _ _ _ h => h⟩ q⟩
  · have h' : ([] : List (Option D))[i]? = some (some d) := h
    simp at h'
  · cases e : cellsO w1.own x with
    | none => exact e
    | some t =>
      obtain ⟨t2, e2, _⟩ := cellsO_ne (o := w1.own) (x := x) (by rw [e]; simp)
      rw [(fr.R x h).1] at e2; cases e2
  · rw [g3] at hP
    revert hP
    cases hgd : g (ds ++ fillD dfl ps.length ds.length) st.m with
    | bad => exact fun h => h
    | ex x m' =>
      intro hP w' H' dd vs' f' s' q1 q2 q3
      obtain ⟨fall, srl⟩ := ret_of (σ := σ) (st := st) fr sr f' s'
      exact hP _ σ H' dd vs' fall srl q1 q2 q3
    | ok d m' =>
      intro hP w' R' H' v f' s' hv
      obtain ⟨fall, srl⟩ := ret_of (σ := σ) (st := st) fr sr f' s'
      exact hP _ R' H' v fall srl hv
/-- a call, by the promise -/
theorem call_ofH {g : List D → Mem → Rr} {X : Cx} {E : L2.WX} {k : Nat} {fa : Addr} {fd : FuncData} {ps : List Str} {dfl : List D} (tk : Takes X E) (F : FnGH X.prog X.w X.K X.mg X.base (L2.CX X.prog X.w) k fa fd ps (spF W ps.length g)) (hr : RmH k X.A) (hb : BindsD X.K fd ps dfl)
    (hg : Fills ps.length dfl g) : CallS X (.ref fa) (rCal W E g) := by
  intro pins s σ H1 vs us Q I r h
  obtain ⟨w, H, w1, R, ds, st, fr, sr, hT, hP⟩ := h
  have hne : g ds st.m ≠ .bad := fun z => by rw [z] at hP; exact hP
  obtain ⟨g1, g2, g3⟩ := hg _ _ hne
  obtain ⟨du, hdu, hbi⟩ := hb.to ds.length g1 g2
  refine run_fnSDGH (vs := vs) (ds := du) (dvs := (fillD dfl ps.length ds.length).map dV) (E := WE E) F hr hbi hdu (passAt tk σ) I r ?_
  have hT2 := RpT.fill (fillD_sc (np := ps.length) (n := ds.length) hb.sc) hT
  refine ⟨?_, ⟨w1.S, cellsO w1.own, w1.io⟩, R, _, st.m, ⟨sr.sle, fun a t h => ?_, sr.iol, fun n d h => ?_, fun i d h => ?_, rfl⟩, fun x h => ⟨?_, (fr.R x h).2⟩, hT2, ?_⟩
  · have := fillD_len (dfl := dfl) g1 g2
    rw [List.length_append, List.length_map, this, ← hT.len]; omega
  · obtain ⟨t2, e, _⟩ := cellsO_ne (o := w1.own) (x := a) (by rw [show cellsO w1.own a = some t from h]; simp)
    exact sr.sno a t2 e
  · obtain ⟨a, e, q⟩ := sr.cel n d h
    exact ⟨a, e, Rp.mono (w := w1) (w' := ⟨w1.S, cellsO w1.own, w1.io⟩) ⟨SLe.refl _, fun _ _ h => h, fun b p hb => cellsO_some hb, fun _ _ _ _ h => h⟩ q⟩
  · have h' : ([] : List (Option D))[i]? = some (some d) := h
    simp at h'
  · cases e : cellsO w1.own x with
    | none => exact e
    | some t =>
      obtain ⟨t2, e2, _⟩ := cellsO_ne (o := w1.own) (x := x) (by rw [e]; simp)
      rw [(fr.R x h).1] at e2; cases e2
  · rw [g3] at hP
    revert hP
    cases hgd : g (ds ++ fillD dfl ps.length ds.length) st.m with
    | bad => exact fun h => h
    | ex x m' =>
      intro hP w' H' dd vs' f' s' q1 q2 q3
      obtain ⟨fall, srl⟩ := ret_of (σ := σ) (st := st) fr sr f' s'
      exact hP _ σ H' dd vs' fall srl q1 q2 q3
    | ok d m' =>
      intro hP w' R' H' v f' s' hv
      obtain ⟨fall, srl⟩ := ret_of (σ := σ) (st := st) fr sr f' s'
      exact hP _ R' H' v fall srl hv
/-- the last cell's thing is held, the cell is no more -/
theorem pop_cell {w0 w' : Wh} {H H' : Hp} {R' : Own} {m2 : Mem} {n : Nat} {o : D} {x : Addr} (f' : Fr w0 H w' R' H') (s' : SRep W w' H' [] ⟨[], m2⟩) (hio : w0.io.length = n) (hx : w'.io[n]? = some x) (ho : m2[n]? = some o) (ht : tidy n (m2.take n) = true) (hb : o.bel n = true) :
    ∃ w'' R'', Fr w0 H w'' R'' H' ∧ SRep W w'' H' [] ⟨[], m2.take n⟩ ∧ Rp W (w''.wth R'') H' (.temp 0) o none (.ref x) := by
  have hlt : n < m2.length := (List.getElem?_eq_some_iff.mp ho).1
  have hlen : n ≤ w'.io.length := by rw [s'.iol]; show n ≤ m2.length; omega
  have hml : (m2.take n).length = n := by rw [List.length_take]; omega
  have cm : ∀ j c, j < n → (m2.take n)[j]? = some c → m2[j]? = some c := fun j c hj h => by rw [List.getElem?_take_of_lt hj] at h; exact h
  obtain ⟨f2, s2⟩ := cut_snd (W := W) f'.noR hio s'.sle s'.sno hlen (fun j c hj hc => s'.cel j c (cm j c hj hc)) ht hml
  let R'' : Own := fun y => match w'.own y with
    | some (.cell j, p) => if j = n then some (.temp 0, p) else none
    | _ => none
  have r1 : ∀ y, R'' y ≠ none → ∃ p, w'.own y = some (.cell n, p) := fun y hy => by
    have hy' : (match w'.own y with
      | some (.cell j, p) => if j = n then some ((.temp 0, p) : Ix × Ps) else none
      | _ => none) ≠ none := hy
    split at hy'
    · rename_i j p e
      split at hy'
      · rename_i ej; subst ej; exact ⟨p, e⟩
      · exact absurd rfl hy'
    · exact absurd rfl hy'
  have r2 : ∀ y p, w'.own y = some (.cell n, p) → R'' y = some (.temp 0, p) := fun y p e => by
    show (match w'.own y with
      | some (.cell j, p) => if j = n then some ((.temp 0, p) : Ix × Ps) else none
      | _ => none) = _
    rw [e]; simp
  refine ⟨_, R'', ⟨f2.S, f2.io, f2.dom, fun y hy => ?_, f2.Sd, f2.keep, fun y hy => ?_⟩, s2, ?_⟩
  · obtain ⟨p, e⟩ := r1 y hy
    exact f'.dom y (by rw [e]; simp)
  · obtain ⟨p, e⟩ := r1 y hy
    refine ⟨?_, (s'.sno y _ e).1, (s'.sno y _ e).2⟩
    show cellsB n w'.own y = none
    unfold cellsB; rw [e]; simp
  · obtain ⟨a, ea, q⟩ := s'.cel n o ho
    rw [hx] at ea; cases ea
    have q1 : Rp W ⟨w'.S, R'', w'.io⟩ H' (.temp 0) o none (.ref x) := Rp.mono (w := w') (w' := ⟨w'.S, R'', w'.io⟩) ⟨SLe.refl _, fun _ _ h => h, fun b p hb => r2 b p hb, fun _ _ _ _ h => h⟩ q
    exact Rp.bel (w := ⟨w'.S, R'', w'.io⟩) (w' := Wh.wth ⟨w'.S, cellsB n w'.own, w'.io.take n⟩ R'') (n0 := n) (fun _ _ h => h) (fun j a hj h => by show (w'.io.take n)[j]? = some a; rw [List.getElem?_take_of_lt hj]; exact h) (fun _ _ h => h) hb q1
def shT : Ix → Ix
  | .temp j => .temp (j + 1)
  | r => r
/-- C(..), by its __init__'s promise -/
theorem make_of {F : Cl} {k f : String} {X : Cx} {E : L2.WX} {lv : Nat} {fI : Addr} {fd : FuncData} {ps : List Str} {dfl : List D} (hini : F.ini k = some (some f)) (hk : k ∈ W.cs) (M : Mk X.K (W.cls k) fI) (tk : Takes X E) (F1 : FnG X.prog X.w X.K X.mg X.base (L2.CX X.prog X.w) lv fI fd ps (spF W ps.length (F.fn false f)))
    (hr : Rm (lv + 1) X.A) (hb : BindsD X.K fd ps dfl) (hg : Fills ps.length dfl (F.fn false f)) : CallS X (.ref (W.cls k)) (rCal W E (mkR F k)) := by
  intro pins s σ H1 vs us Q I r h
  obtain ⟨w, H, w1, R, ds, st, fr, sr, hT, hP⟩ := h
  have hP' : PostE W w H σ Q E ((match F.fn false f (.cell st.m.length :: ds) (st.m ++ [.obj true k [] []]) with
    | .ok .non m2 => (match m2[st.m.length]? with
      | some o => if tidy st.m.length (m2.take st.m.length) && o.bel st.m.length then (if F.frz k then (if o.nc then Rr.ok o.frz (m2.take st.m.length) else .bad) else .ok o (m2.take st.m.length)) else .bad
      | none => .bad)
    | .ex x m2 => if tidy st.m.length (m2.take st.m.length) then .ex x (m2.take st.m.length) else .bad
    | _ => .bad : Rr).rs st) := by
    have e : mkR F k ds st.m = _ := rfl
    unfold mkR at hP
    rw [hini] at hP
    exact hP
  clear hP
  have hne : F.fn false f (.cell st.m.length :: ds) (st.m ++ [.obj true k [] []]) ≠ .bad := fun z => by rw [z] at hP'; exact hP'
  obtain ⟨g1, g2, g3⟩ := hg _ _ hne
  obtain ⟨du, hdu, hbi⟩ := hb.to (D.cell st.m.length :: ds).length g1 g2
  refine run_makeAt (avs := vs) (xs := du) (xvs := (fillD dfl ps.length (D.cell st.m.length :: ds).length).map dV) (Ew := WE E σ) M F1 hr hbi hdu (passAt tk σ) I r ?_
  intro x dx hx hdx hne2
  have up : ∀ y u, H1 y = some u → upd (upd H1 dx (.own x)) x (.ins (W.cls k) dx []) y = some u := fun y u h => by
    rw [upd_ne (ne_of_none h hx), upd_ne (ne_of_none h hdx)]; exact h
  have nw : ∀ y, upd (upd H1 dx (.own x)) x (.ins (W.cls k) dx []) y = none → H1 y = none := fun y h => by
    cases e : H1 y with
    | none => rfl
    | some u => rw [up y u e] at h; cases h
  have wx : w1.own x = none := by
    cases e : w1.own x with
    | none => rfl
    | some t => exact absurd hx (sr.sno x t e).2.ne
  have wS : w1.S x = none := by
    cases e : w1.S x with
    | none => rfl
    | some t => exact absurd hx (sr.sle x t e).ne
  have Rx : R x = none := by
    cases e : R x with
    | none => rfl
    | some t => exact absurd hx (fr.R x (by rw [e]; simp)).2.2.ne
  have hx2 : upd (upd H1 dx (.own x)) x (.ins (W.cls k) dx []) x = some (.ins (W.cls k) dx []) := upd_same
  let own2 : Own := fun a => if a = x then some (.cell st.m.length, none) else cellsO w1.own a
  have o2n : ∀ a, a ≠ x → own2 a = cellsO w1.own a := fun a h => if_neg h
  have o2x : own2 x = some (.cell st.m.length, none) := if_pos rfl
  have oc : ∀ b n p, w1.own b = some (.cell n, p) → own2 b = some (.cell n, p) := fun b n p h => by
    rw [o2n b (fun z => by subst z; rw [wx] at h; cases h)]; exact cellsO_some h
  have kp : ∀ n, Kp w1 ⟨w1.S, own2, w1.io ++ [x]⟩ H1 (upd (upd H1 dx (.own x)) x (.ins (W.cls k) dx [])) (.cell n) (.cell n) := fun n => ⟨SLe.refl _, fun i a h => by
    show (w1.io ++ [x])[i]? = some a
    rw [List.getElem?_append_left (List.getElem?_eq_some_iff.mp h).1]; exact h, fun b p hb => oc b n p hb, fun a p u _ h => up a u h⟩
  let R2 : Own := ren shT R
  have fr2 : Fr w H w1 R2 H1 := fr.ren shT
  have hsh : ∀ {ds : List D} {vs : List V} {j : Nat}, RpT W (w1.wth R) H1 j ds vs → RpT W (Wh.wth ⟨w1.S, own2, w1.io ++ [x]⟩ R2) (upd (upd H1 dx (.own x)) x (.ins (W.cls k) dx [])) (j + 1) ds vs := by
    intro ds
    induction ds with
    | nil => intro vs j h; simpa only [RpT] using h
    | cons d ds ih =>
      intro vs j h
      simp only [RpT] at h
      obtain ⟨v, s, rfl, q, t⟩ := h
      simp only [RpT]
      refine ⟨v, s, rfl, ?_, ih t⟩
      have q1 := held_ren shT q
      exact Rp.mono (w := w1.wth R2) (w' := Wh.wth ⟨w1.S, own2, w1.io ++ [x]⟩ R2) (r := shT (.temp j)) (r' := .temp (j + 1)) ⟨SLe.refl _, fun i a h => by
        show (w1.io ++ [x])[i]? = some a
        rw [List.getElem?_append_left (List.getElem?_eq_some_iff.mp h).1]; exact h, fun _ _ h => h, fun a p u _ h => up a u h⟩ q1
  have hT2 : RpT W (Wh.wth ⟨w1.S, own2, w1.io ++ [x]⟩ R2) (upd (upd H1 dx (.own x)) x (.ins (W.cls k) dx [])) 0 (.cell st.m.length :: ds) (.ref x :: vs) := by
    simp only [RpT]
    refine ⟨_, _, rfl, ?_, hsh hT⟩
    simp only [Rp]
    exact ⟨x, by show (w1.io ++ [x])[st.m.length]? = some x; rw [List.getElem?_append_right (by rw [sr.iol]; exact Nat.le_refl _), sr.iol]; simp, rfl⟩
  have hT3 := RpT.fill (fillD_sc (np := ps.length) (n := (D.cell st.m.length :: ds).length) hb.sc) hT2
  have gg : ∀ {w' : Wh} {R' : Own} {H' : Hp}, Fr ⟨w1.S, ownU own2 R2, w1.io ++ [x]⟩ (upd (upd H1 dx (.own x)) x (.ins (W.cls k) dx [])) w' R' H' → Fr ⟨w1.S, ownU (cellsO w1.own) R2, w1.io⟩ H1 w' R' H' := fun {w' R' H'} f' => by
    have bo : ∀ y, ownU own2 R2 y ≠ none → ownU (cellsO w1.own) R2 y ≠ none ∨ H1 y = none := fun y h => by
      by_cases z : y = x
      · subst z; exact .inr hx
      · refine .inl ?_
        unfold ownU at h ⊢
        rw [o2n y z] at h; exact h
    have h2n : ∀ y, upd (upd H1 dx (.own x)) x (.ins (W.cls k) dx []) y = none → H1 y = none := nw
    refine ⟨f'.S, fun i a h => f'.io i a ?_, fun y h => ?_, fun y h => ?_, fun y h => ?_, fun y u n h => f'.keep y u ?_ (up y u h), f'.R⟩
    · show (w1.io ++ [x])[i]? = some a
      rw [List.getElem?_append_left (List.getElem?_eq_some_iff.mp h).1]; exact h
    · exact (f'.dom y h).elim (bo y) fun z => .inr (h2n y z)
    · exact (f'.domR y h).elim (bo y) fun z => .inr (h2n y z)
    · rcases f'.Sd y h with q | q | q
      · exact .inl q
      · exact .inr ((bo y q).imp id nLv)
      · exact .inr (.inr fun l => q (l.keep fun u e => up y u e))
    · have z : y ≠ x := fun z => by subst z; rw [h] at hx; cases hx
      show ownU own2 R2 y = none
      have n' : ownU (cellsO w1.own) R2 y = none := n
      unfold ownU at n' ⊢
      rw [o2n y z]; exact n'
  have noS : ∀ a t, own2 a = some t → a = x ∨ ∃ t2, w1.own a = some t2 ∧ isCell t2.1 = true := fun a t h => by
    by_cases z : a = x
    · exact .inl z
    · rw [o2n a z] at h
      exact .inr (cellsO_ne (by rw [h]; simp))
  refine ⟨?_, ⟨w1.S, own2, w1.io ++ [x]⟩, R2, _, st.m ++ [.obj true k [] []], ⟨fun a u h => rdX_upd (by rw [upd_ne hne2.symm]; exact hx) (rdX_upd hdx (sr.sle a u h)), fun a t h => ?_, ?_, fun n d h => ?_, fun i d h => ?_, rfl⟩, fun y h => ?_, hT3, ?_⟩
  · have q := fillD_len (dfl := dfl) g1 g2
    have q2 := hT.len
    simp only [List.length_cons, List.length_append, List.length_map] at q q2 g1 ⊢
    omega
  · rcases noS a t h with rfl | ⟨t2, e, _⟩
    · exact ⟨wS, Lv.of hx2⟩
    · refine ⟨(sr.sno a t2 e).1, (sr.sno a t2 e).2.keep fun u e => up a u e⟩
  · show (w1.io ++ [x]).length = (st.m ++ [D.obj true k [] []]).length
    rw [List.length_append, List.length_append, sr.iol]; rfl
  · have h' : (st.m ++ [D.obj true k [] []])[n]? = some d := h
    by_cases z : n < st.m.length
    · rw [List.getElem?_append_left z] at h'
      obtain ⟨a, e, q⟩ := sr.cel n d h'
      refine ⟨a, (kp n).io _ _ e, Rp.mono (kp n) q⟩
    · rw [List.getElem?_append_right (by omega)] at h'
      have hn : n = st.m.length := by
        have := (List.getElem?_eq_some_iff.mp h').1
        simp at this; omega
      subst hn
      simp at h'
      subst h'
      refine ⟨x, by show (w1.io ++ [x])[st.m.length]? = some x; rw [List.getElem?_append_right (by rw [sr.iol]; exact Nat.le_refl _), sr.iol]; simp, ?_⟩
      simp only [Rp]
      exact ⟨x, [], _, rfl, o2x, hx2, ⟨dx, rfl, rfl, List.nodup_nil, hk⟩, by simp only [RpL]⟩
  · have h' : ([] : List (Option D))[i]? = some (some d) := h
    simp at h'
  · obtain ⟨q1, q2, q3⟩ := fr2.R y h
    have z : y ≠ x := fun z => by subst z; exact q3.ne hx
    refine ⟨?_, q2, q3.keep fun u e => up y u e⟩
    show own2 y = none
    rw [o2n y z]
    cases e : cellsO w1.own y with
    | none => rfl
    | some t =>
      obtain ⟨t2, e2, _⟩ := cellsO_ne (o := w1.own) (x := y) (by rw [e]; simp)
      rw [q1] at e2; cases e2
  · rw [g3] at hP'
    revert hP'
    show _ → PostC W _ R2 _ _ (WE E σ) (F.fn false f (D.cell st.m.length :: ds ++ fillD dfl ps.length (D.cell st.m.length :: ds).length) (st.m ++ [.obj true k [] []]))
    cases hgd : F.fn false f (D.cell st.m.length :: ds ++ fillD dfl ps.length (D.cell st.m.length :: ds).length) (st.m ++ [.obj true k [] []]) with
    | bad => exact fun h => h
    | ex xc m2 =>
      intro hP' w' H' dd vs' f' s' q1 q2 q3
      have hP2 : PostE W w H σ Q E ((if tidy st.m.length (m2.take st.m.length) then .ex xc (m2.take st.m.length) else .bad : Rr).rs st) := hP'
      by_cases ht : tidy st.m.length (m2.take st.m.length) = true
      · rw [if_pos ht] at hP2
        have g' := gg f'
        have hlen : st.m.length ≤ w'.io.length := by
          have h1 := f'.io st.m.length x (by
            show (w1.io ++ [x])[st.m.length]? = some x
            rw [List.getElem?_append_right (by rw [sr.iol]; exact Nat.le_refl _), sr.iol]; simp)
          have := (List.getElem?_eq_some_iff.mp h1).1
          omega
        have hml : (m2.take st.m.length).length = st.m.length := by
          have : w'.io.length = m2.length := s'.iol
          rw [List.length_take]; omega
        have cm : ∀ j c, j < st.m.length → (m2.take st.m.length)[j]? = some c → m2[j]? = some c := fun j c hj h => by rw [List.getElem?_take_of_lt hj] at h; exact h
        obtain ⟨f3, s3⟩ := cut_snd (W := W) g'.noR sr.iol s'.sle s'.sno hlen (fun j c hj hc => s'.cel j c (cm j c hj hc)) ht hml
        obtain ⟨fall, srl⟩ := ret_of (σ := σ) (st := st) fr2 sr f3 s3
        exact hP2 _ σ H' dd vs' fall srl q1 q2 q3
      · rw [if_neg ht] at hP2; exact hP2.elim
    | ok d m2 =>
      intro hP' w' R' H' v f' s' hv
      cases d with
      | non =>
        have hv' : v = .non := by simpa only [Rp] using hv
        refine ⟨hv', ?_⟩
        have hP2 : PostE W w H σ Q E ((match m2[st.m.length]? with
          | some o => if tidy st.m.length (m2.take st.m.length) && o.bel st.m.length then (if F.frz k then (if o.nc then Rr.ok o.frz (m2.take st.m.length) else .bad) else .ok o (m2.take st.m.length)) else .bad
          | none => .bad : Rr).rs st) := hP'
        cases eo : m2[st.m.length]? with
        | none => rw [eo] at hP2; exact hP2.elim
        | some o =>
          rw [eo] at hP2
          simp only at hP2
          by_cases ht : (tidy st.m.length (m2.take st.m.length) && o.bel st.m.length) = true
          · rw [if_pos ht] at hP2
            rw [Bool.and_eq_true] at ht
            have g' := gg f'
            have hxi : w'.io[st.m.length]? = some x := f'.io _ _ (by
              show (w1.io ++ [x])[st.m.length]? = some x
              rw [List.getElem?_append_right (by rw [sr.iol]; exact Nat.le_refl _), sr.iol]; simp)
            obtain ⟨w3, R3, f3, s3, q3⟩ := pop_cell (n := st.m.length) g' s' sr.iol hxi eo ht.1 ht.2
            by_cases hz : F.frz k = true
            · rw [if_pos hz] at hP2
              by_cases hn : o.nc = true
              · rw [if_pos hn] at hP2
                obtain ⟨f4, s4⟩ := frzA_snd f3 s3
                obtain ⟨f5, s5⟩ := ret_of (σ := σ) (st := st) fr2 sr f4 s4
                refine hP2 _ noR H' (.ref x) f5 s5 ?_
                exact Rp.of_sh (frzA_rp f3 hn q3)
              · rw [if_neg hn] at hP2; exact hP2.elim
            · rw [if_neg hz] at hP2
              obtain ⟨f5, s5⟩ := ret_of (σ := σ) (st := st) fr2 sr f3 s3
              refine hP2 _ R3 H' (.ref x) f5 s5 ?_
              exact Rp.mono (w := w3.wth R3) (w' := Wh.wth ⟨w3.S, ownU (slotsO w1.own) w3.own, w3.io⟩ R3) ⟨SLe.refl _, fun _ _ h => h, fun _ _ h => h, fun _ _ _ _ h => h⟩ q3
          · rw [if_neg ht] at hP2; exact hP2.elim
      | _ => exact hP'.elim
end
end VS
/-! VS30b: things of classes without an __init__. -/
namespace VS
open PySem PySem.Spec L2
open PyProof.Rows hiding St
theorem run_make0 {X : Cx} {C : Addr} {pins : List (Addr × Obj)} {σ : L2.St} {H : Hp} {s : Shared} {Q : VK} (hm : PySem.W.makesIn X.K C = true) (hi : PySem.W.findIn X.K (.ref C) "__init__" = some (some (.builtin "object.__init__")))
    (I : Inv X pins σ H s) (h : ∀ x dx, H x = none → H dx = none → dx ≠ x → Q (.ref x) (upd (upd H dx (.own x)) x (.ins C dx []))) :
    wpAny (model X.prog X.w) X.A (call (.ref C) []) (EP X pins σ Q) X.xe s := by
  have hq := h (s.heap.objs.size + 1) s.heap.objs.size (I.hok.fresh (Nat.le_succ _)) (I.hok.fresh (Nat.le_refl _)) (Nat.ne_of_lt (Nat.lt_succ_self _))
  have I2 := Inv.made (C := C) I
  refine wpAny_call (make_map0 I.kIn hm hi (fun self => PySem.W.Looks.of_pure (PySem.W.oi_bind _)) ?_)
  have Y := PySem.W.makes_of (M := model X.prog X.w) I.kIn hm
  have hg : ((s.heap.push PySem.W.emptyDict).push (PySem.W.instObj C s.heap.objs.size)).get? (s.heap.objs.size + 1) = some (PySem.W.instObj C s.heap.objs.size) := by
    have := Heap.get?_push_size (s.heap.push PySem.W.emptyDict) (o := PySem.W.instObj C s.heap.objs.size) rfl
    rwa [Heap.size_push] at this
  have t1 : PySem.W.Looks (model X.prog X.w) ((s.heap.push PySem.W.emptyDict).push (PySem.W.instObj C s.heap.objs.size)) (typeOf (.ref (s.heap.objs.size + 1))) (.ref C) := (PySem.W.Looks.ld hg).andThen .now
  have t2 : PySem.W.Looks (model X.prog X.w) ((s.heap.push PySem.W.emptyDict).push (PySem.W.instObj C s.heap.objs.size)) (isInstance (.ref (s.heap.objs.size + 1)) (.type "object")) true := t1.andThen (Y.top.keeps fun b o e => Heap.get?_push_of_some _ (Heap.get?_push_of_some _ e))
  refine codeAny_call_builtin PySem.W.oi_plain PySem.W.entry_oi (@PySem.W.check_slot (model X.prog X.w) _ _ _ "object.__init__" "object" "__init__" (.ref (s.heap.objs.size + 1)) [] [] _ PySem.W.oi_kind PySem.W.oi_split t2 (PySem.W.oi_args _) ?_)
  rw [PySem.W.oi_run]
  refine wpAny_pure (And.intro rfl ?_)
  exact ⟨V.ref (s.heap.objs.size + 1), _, I2, rfl, hq⟩
theorem make_of0 {W : Wd} {F : Cl} {k : String} {X : Cx} {E : L2.WX} (hini : F.ini k = some none) (hk : k ∈ W.cs) (hm : PySem.W.makesIn X.K (W.cls k) = true) (hi : PySem.W.findIn X.K (.ref (W.cls k)) "__init__" = some (some (.builtin "object.__init__"))) : CallS X (.ref (W.cls k)) (rCal W E (mkR F k)) := by
  intro pins s σ H1 vs us Q I r h
  obtain ⟨w, H, w1, R, ds, st, fr, sr, hT, hP⟩ := h
  unfold mkR at hP
  rw [hini] at hP
  simp only at hP
  by_cases hd : ds.isEmpty = true
  · rw [if_pos hd] at hP
    have e : ds = [] := by simpa using hd
    subst e
    simp only [RpT] at hT
    subst hT
    cases r
    refine run_make0 hm hi I fun x dx hx hdx hne => ?_
    have s1 := sr.laid (o := .own x) hdx
    have hx1 : upd H1 dx (HO.own x) x = none := by rw [upd_ne hne.symm]; exact hx
    have fr1 : Fr w H w1 VS.noR (upd H1 dx (.own x)) := by
      refine ⟨fr.S, fr.io, fr.dom, fun _ h => absurd rfl h, fr.Sd, fun y u n h => ?_, fun _ h => absurd rfl h⟩
      have q := fr.keep y u n h
      rw [upd_ne (ne_of_none q hdx)]; exact q
    cases hz : F.frz k with
    | true =>
      rw [hz] at hP
      exact PostE.newS (k := .obj k []) (xs := []) (vs := []) hP fr1 s1 (by simp only [RpSL]) ⟨dx, rfl, rfl, List.nodup_nil, hk⟩ x hx1
    | false =>
      rw [hz] at hP
      exact PostE.new (k := .obj k []) (xs := []) (vs := []) hP fr1 s1 (by simp only [RpSL]) ⟨dx, rfl, rfl, List.nodup_nil, hk⟩ rfl x hx1
  · rw [if_neg hd] at hP; exact hP.elim
end VS
/-! VX1: refusals' classes: their __init__, how one is made. -/
namespace VS
open PySem PySem.Spec L2
open PyProof.Rows hiding St
/-- B.__init__(self, text), where that is ValueError's -/
theorem pe_vinitC {X : Cx} {B : Addr} {mc : Value} {bn : Str} {e0 : Expr} {es : List Expr} {ta : TA} {p1 p2 p3 : Pos} (hg : Gl X bn) (hm : X.mg bn = some (.ref B)) (hd : (bn == ("__debug__" : Str)) = false) (rd : ClX.CRead X.K B mc)
    (hat : PySem.W.findCls X.K (.ref B) mc "__init__" = some (.val (.builtin "ValueError.__init__"))) (ha : PA X (e0 :: es) ta) (hns : (e0 :: es).all noStar = true)
    (hc : ∃ pl : Sem Bool, eval (.Call (.Attribute (.Name bn p1) "__init__" p2) (e0 :: es) [] p3) X.env = (do
      let ov ← eval (.Name bn p1) X.env
      standAt p2.atName
      let (f, first) ← holding [ov] (getMethod ov "__init__" pl)
      callWith p3 f first (backTo p3 (starEach (e0 :: es) X.env)) (backToKw p3 (keywordEach [] X.env)))) :
    PE X (.Call (.Attribute (.Name bn p1) "__init__" p2) (e0 :: es) [] p3) (tVeI X.K ta) := by
  obtain ⟨pl, hc⟩ := hc
  simp only [List.all_cons, Bool.and_eq_true] at hns
  refine ⟨fun pins s0 σ H Q I hh => ?_⟩
  refine PySem.W.methodCall_KW (pl := pl) (ld_glob I hg hm ?_ hd) hc
  refine PySem.W.method_cls I.kIn rd.ga (PySem.W.cls_value I.kIn rd.rd hat rfl ?_)
  show wpAny _ _ (callWith p3 (Value.builtin "ValueError.__init__") [] (backTo p3 (starEach (e0 :: es) X.env)) []) _ _ _
  refine PyProof.Rows.callWith_method1 (thn (ha.run p3 pins _ σ H _ (I.tok _) hh) fun uu s1 ⟨vv, H1, I1, r1, a, C, ws, ev, hl, T, ea, q⟩ => ?_) (starEach_cons hns.1) (plain_star hns.2)
  subst ev
  cases r1 with
  | @cons _ u0 _ ur ra rw' =>
    obtain rfl : u0 = Value.ref a := ra
    have hlen : ur.length ≤ sizeLine := by
      have := Paired.length rw'
      rw [sizeLine_eq]; omega
    exact oinit_ok T I1 ea hlen fun s' J => ⟨.non, H1, J, rfl, q⟩
/-- the text of such an __init__: the base's name, the field -/
def vInitX (b : List Stmt) (ps : List Str) : Option (Str × Str) := match b, ps with
  | [.Expr (.Call (.Attribute (.Name bn _) m ap) [.Name s1 _, .Constant (.str _) _ _] [] cp) _, .Assign [.Attribute (.Name s2 _) f _] (.Name y _) _], [s, x] =>
    if m = "__init__" ∧ s1 = s ∧ s2 = s ∧ y = x ∧ (ap.endLine == cp.line) = true ∧ s ≠ x then some (bn, f) else none
  | _, _ => none
theorem vInitX_eq {b : List Stmt} {ps : List Str} {bn f : Str} (h : vInitX b ps = some (bn, f)) : ∃ (s x : Str) (p1 ap p3 p4 cp p5 p6 p7 p8 p9 : Pos) (t : Str) (j : Nat), ps = [s, x] ∧ s ≠ x ∧ (ap.endLine == cp.line) = true ∧
    b = [.Expr (.Call (.Attribute (.Name bn p1) "__init__" ap) [.Name s p3, .Constant (.str t) j p4] [] cp) p5, .Assign [.Attribute (.Name s p6) f p7] (.Name x p8) p9] := by
  unfold vInitX at h
  split at h
  · split at h
    · rename_i hh
      obtain ⟨rfl, rfl, rfl, rfl, h5, h6⟩ := hh
      cases h
      exact ⟨_, _, _, _, _, _, _, _, _, _, _, _, _, _, rfl, h6, h5, rfl⟩
    · cases h
  · cases h
/-- such an __init__ keeps its promise -/
theorem initX_ok {P : Program} {w : World} {K : PySem.W.Frag} {mg : Str → Option Value} {base : Heap} {CX : CXT} {k : Nat} {x qual : Str} {params : Arguments} {body : List Stmt} {scope : Scope} {fI B C : Addr} {fd : FuncData} {ps : List Str} {bn f : Str} {mc : Value}
    (D : FunD K x qual params body scope [] [] fI fd) (S : FnScope ps ps scope) (hv : vInitX body ps = some (bn, f)) (hps : ps.all (fun y => visB scope y && !dbB y) = true) (T : OexC K C) (hno : PySem.W.findIn K (.ref C) f = some none)
    (hm : mg bn = some (.ref B)) (hgl : glB scope bn = true) (hdb : dbB bn = false) (rd : ClX.CRead K B mc) (hat : PySem.W.findCls K (.ref B) mc "__init__" = some (.val (.builtin "ValueError.__init__"))) :
    FnOk P w K mg base CX (k + 1) fI fd ps (spX C f) := by
  obtain ⟨s, y, p1, ap, p3, p4, cp, p5, p6, p7, p8, p9, t, j, rfl, hne, hl, rfl⟩ := vInitX_eq hv
  refine D.ok S (fun vs H Q E h => by obtain ⟨a, v, rfl, _⟩ := h; rfl) fun cdv A outer s0 H vs Q E hr hsp => ?_
  obtain ⟨a, v, rfl, ha, hq⟩ := hsp
  simp only [List.all_cons, List.all_nil, Bool.and_true, Bool.and_eq_true, Bool.not_eq_true', dbB, Bool.or_eq_false_iff] at hps hdb
  obtain ⟨⟨v1, ⟨d1, d1'⟩, _⟩, ⟨v2, ⟨d2, d2'⟩, _⟩⟩ := hps
  have n1 : PE (cxOf CX P w K mg base [s, y] qual scope fI cdv A outer s0 H E) (.Name s p3) (tVar 0) := pe_var rfl (vis_of v1) d1 d1'
  have n2 : PE (cxOf CX P w K mg base [s, y] qual scope fI cdv A outer s0 H E) (.Name s p6) (tVar 0) := pe_var rfl (vis_of v1) d1 d1'
  have n3 : PE (cxOf CX P w K mg base [s, y] qual scope fI cdv A outer s0 H E) (.Name y p8) (tVar 1) := pe_var rfl (vis_of v2) d2 d2'
  have ga : Gl (cxOf CX P w K mg base [s, y] qual scope fI cdv A outer s0 H E) bn := by
    have z : scope.names.lookup bn = some .globalImplicit := of_decide_eq_true hgl
    exact z
  have c1 := pe_vinitC (X := cxOf CX P w K mg base [s, y] qual scope fI cdv A outer s0 H E) (B := B) (mc := mc) (bn := bn) (p1 := p1) (p2 := ap) (p3 := cp) ga hm hdb.1.1 rd hat (pa_cons n1 (pa_cons (pe_str (x := t) (j := j) (pos := p4)) pa_nil)) rfl (met_eval rfl rfl (by simp) hl)
  refine ⟨_, pss_cons (ps_expr c1 rfl) (pss_cons (ps_ost n2 n3) pss_nil), ?_⟩
  refine ⟨.ref a, rfl, ?_⟩
  refine ⟨a, C, [.str t], rfl, by simp, T, ha, ?_⟩
  refine ⟨v, rfl, .ref a, rfl, a, C, rfl, T, hno, .inl ⟨ha, fun dx h1 h2 => hq dx h1 h2⟩⟩
/-- all that is known of a refusal's class -/
structure XcOk (W : Wd) (P : Prog) (mg : Str → Option Value) (k f : String) (fI B : Addr) (fd : FuncData) (ps : List Str) (body : List Stmt) (scope : Scope) (x qual : Str) (params : Arguments) (bn : Str) (mc : Value) : Prop where
  exc : P.exc k = some [f]
  mC : mg (sn k) = some (.ref (W.cls k))
  T : OexC W.K (W.cls k)
  ini : PySem.W.findIn W.K (.ref (W.cls k)) "__init__" = some (some (.ref fI))
  tI : PySem.W.typeIn W.K (.ref fI) = some (.type "function")
  D : FunD W.K x qual params body scope [] [] fI fd
  S : FnScope ps ps scope
  v : vInitX body ps = some (bn, sn f)
  vis : ps.all (fun y => visB scope y && !dbB y) = true
  no : PySem.W.findIn W.K (.ref (W.cls k)) (sn f) = some none
  mb : mg bn = some (.ref B)
  gl : glB scope bn = true
  db : dbB bn = false
  rd : ClX.CRead W.K B mc
  at_ : PySem.W.findCls W.K (.ref B) mc "__init__" = some (.val (.builtin "ValueError.__init__"))
  bi : Binds W.K fd ps []
def XcAll (W : Wd) (P : Prog) (mg : Str → Option Value) (k : String) : Prop := ∃ f fI B fd ps body scope x qual params bn mc, XcOk W P mg k f fI B fd ps body scope x qual params bn mc
/-- how a refusal is made, in any body -/
theorem rai_of {W : Wd} {P : Prog} {X : Cx} {k : String} (hX : XcAll W P X.mg k) (hK : X.K = W.K) (hr : Room 2 X.A) : ∃ f, P.exc k = some [f] ∧ ∀ (e : Expr) (ta : TA) (p1 p : Pos), noStar e = true → Gl X (sn k) → dbB (sn k) = false → PA X [e] ta →
    PMk X (.Call (.Name (sn k) p1) [e] [] p) (tMkO (W.cls k) (spX (W.cls k) (sn f)) [] ta) := by
  obtain ⟨f, fI, B, fd, ps, body, scope, x, qual, params, bn, mc, h⟩ := hX
  refine ⟨f, h.exc, fun e ta p1 p hns hg hd ha => ?_⟩
  simp only [dbB, Bool.or_eq_false_iff] at hd
  have F1 : FnOk X.prog X.w X.K X.mg X.base C8.CX0 1 fI fd ps (spX (W.cls k) (sn f)) := by
    rw [hK]
    exact initX_ok (k := 0) h.D h.S h.v h.vis h.T h.no h.mb h.gl h.db h.rd h.at_
  exact pmk_oex (CX := C8.CX0) (T := by rw [hK]; exact h.T) (iC := by rw [hK]; exact h.ini) (tI := by rw [hK]; exact h.tI) F1 hr (by rw [hK]; exact h.bi) .nil C8.pass0 hg h.mC ha hd.1.1 (starEach_cons hns) rfl
end VS
/-! VS31: the module; a function by its body; all functions; the law's call. -/
namespace VS
open PySem PySem.Spec L2
open PyProof.Rows hiding St
/-- what the written part and the module's names bear; ad: where a function stands -/
structure Wk (W : Wd) (P : Prog) (ad : String → Addr) (nm : List String) (fs : List String) (cs : List String) (fl : List String) (gl : List String) (ms : List String) (sm : List (String × String)) (xs xa : List String) (mg : Str → Option Value) : Prop where
  gl : ∀ y ∈ gl, (P.con y).isSome = true
  con : ∀ g d, P.con g = some d → ∃ u v, mg (sn g) = some u ∧ RelV v u ∧ ∀ S, RpS W S d v
  blt : ∀ x ∈ (["len", "range", "isinstance", "all", "any", "int", "str", "list", "tuple", "dict", "min", "max", "sum", "sorted", "enumerate", "zip", "reversed", "repr", "bool", "set", "ValueError"] : List Str), mg x = none
  cls : ∀ k ∈ W.cs, Cls W.K (W.cls k)
  na : ∀ k ∈ W.cs, ∀ f ∈ fl, NoAttr W.K (W.cls k) (sn f)
  cse : ∀ e ∈ cs, e ∈ W.cs
  clg : ∀ e ∈ cs, mg (sn e) = some (.ref (W.cls e))
  isi : IsiOk W P.sub W.K
  fsn : ∀ f ∈ fs, f ∈ nm ∧ mg (sn f) = some (.ref (ad f))
  met : ∀ k ∈ W.cs, ∀ m ∈ ms, ∀ f, P.meth k m = some f → f ∈ nm ∧ Meth W.K (W.cls k) (sn m) (ad f)
  scm : ∀ q ∈ sm, ∀ f, P.meth q.1 q.2 = some f → f ∈ nm ∧ ∃ C mc, mg (sn q.1) = some (.ref C) ∧ ClX.CRead W.K C mc ∧ PySem.W.findCls W.K (.ref C) mc (sn q.2) = some (.val (.ref (ad f)))
  mak : ∀ k ∈ cs, PySem.W.keepIn W.K (.ref (W.cls k)) = true ∧ (∀ f, P.ini k = some (some f) → f ∈ nm ∧ Mk W.K (W.cls k) (ad f)) ∧
    (P.ini k = some none → PySem.W.makesIn W.K (W.cls k) = true ∧ PySem.W.findIn W.K (.ref (W.cls k)) "__init__" = some (some (.builtin "object.__init__")))
  exc : ∀ k ∈ xs, k ∈ W.xs ∧ XcAll W P mg k
  xae : ∀ e ∈ xa, e ∈ W.xs ∧ mg (sn e) = some (.ref (W.cls e))
  nax : ∀ k ∈ W.xs, ∀ f ∈ fl, PySem.W.findIn W.K (.ref (W.cls k)) (sn f) = some none
/-- a function of the module by its promise -/
def FnV (W : Wd) (P : Prog) (prog : Program) (wd : World) (mg : Str → Option Value) (base : Heap) (ad : String → Addr) (j k : Nat) (f : String) : Prop :=
  ∃ fd ps dfl, FnG prog wd W.K mg base (L2.CX prog wd) j (ad f) fd ps (spF W ps.length (run P k false f)) ∧ BindsD W.K fd ps dfl ∧ Fills ps.length dfl (run P k false f) ∧ PySem.W.keepIn W.K (.ref (ad f)) = true
/-- .. where something may be handled -/
def FnVH (W : Wd) (P : Prog) (prog : Program) (wd : World) (mg : Str → Option Value) (base : Heap) (ad : String → Addr) (j k : Nat) (f : String) : Prop :=
  ∃ fd ps dfl, FnGH prog wd W.K mg base (L2.CX prog wd) j (ad f) fd ps (spF W ps.length (run P k false f)) ∧ BindsD W.K fd ps dfl ∧ Fills ps.length dfl (run P k false f) ∧ PySem.W.keepIn W.K (.ref (ad f)) = true
/-- the text of a function: its statement, its names, its parameters -/
structure FnT (P : Prog) (c : Ck) (f : String) (stm : Stmt) (ps : List Str) (fn : Fn) : Prop where
  fnE : P.fn f = some fn
  dfl : fn.dfl.length ≤ fn.np
  np : fn.np = ps.length
  nsl : fn.nsl = c.N.length
  sc : c.sc = defScope stm
  S : FnScope c.N ps (defScope stm)
  chk : chkSs fn.body c (defBody stm) = true
section
variable {W : Wd} {P : Prog} {prog : Program} {wd : World} {mg : Str → Option Value} {base : Heap} {ad : String → Addr} {nm : List String}
theorem spF_bad {n : Nat} {vs : List V} {H : Hp} {Q : VK} {E : XK} {g : List D → Mem → Rr} (hg : ∀ ds m, g ds m = .bad) (h : spF W n g vs H Q E) : False := by
  obtain ⟨_, w, R, ds, m, _, _, _, h⟩ := h
  rw [hg] at h; exact h
def tsl : Ix → Ix
  | .temp j => .slot j
  | r => r
/-- the start of a body -/
theorem start_snd {w : Wh} {R : Own} {H : Hp} {m : Mem} {ds : List D} {vs : List V} {N : List Str} (s : SRep W w H [] ⟨[], m⟩) (hR : HeldOk w R H) (hT : RpT W (w.wth R) H 0 ds vs) :
    SRep W ⟨w.S, ownU w.own (ren tsl R), w.io⟩ H (L2.start N vs) ⟨ds.map some ++ List.replicate (N.length - ds.length) none, m⟩ := by
  have get : ∀ {j : Nat} {ds : List D} {vs : List V} {i : Nat} {d : D}, RpT W (w.wth R) H j ds vs → ds[i]? = some d → ∃ v, vs[i]? = some v ∧ Rp W (w.wth R) H (.temp (j + i)) d none v := by
    intro j ds
    induction ds generalizing j with
    | nil => intro vs i d _ h; simp at h
    | cons x ds ih =>
      intro vs i d h e
      simp only [RpT] at h
      obtain ⟨v, s, rfl, q, t⟩ := h
      cases i with
      | zero => simp at e; subst e; exact ⟨v, by simp, q⟩
      | succ i =>
        obtain ⟨u, e1, q1⟩ := ih t (by simpa using e)
        exact ⟨u, by simpa using e1, by rw [show j + (i + 1) = j + 1 + i by omega]; exact q1⟩
  refine ⟨s.sle, fun a t h => ?_, s.iol, fun n d h => ?_, fun i d h => ?_, ?_⟩
  · have h' : ownU w.own (ren tsl R) a ≠ none := by rw [show ownU w.own (ren tsl R) a = some t from h]; simp
    rcases ownU_ne h' with q | q
    · cases e : w.own a with
      | none => exact absurd e q
      | some t2 => exact s.sno a t2 e
    · exact (hR a (ren_ne.mp q)).2
  · obtain ⟨a, e, q⟩ := s.cel n d h
    exact ⟨a, e, Rp.mono (w := w) (w' := ⟨w.S, ownU w.own (ren tsl R), w.io⟩) ⟨SLe.refl _, fun _ _ h => h, fun b p hb => ownU_left hb, fun _ _ _ _ h => h⟩ q⟩
  · have h' : (ds.map some ++ List.replicate (N.length - ds.length) none)[i]? = some (some d) := h
    have hi : i < ds.length := by
      rcases Nat.lt_or_ge i ds.length with z | z
      · exact z
      · rw [List.getElem?_append_right (by simpa using z), List.getElem?_replicate] at h'
        split at h' <;> cases h'
    have e : ds[i]? = some d := by
      rw [List.getElem?_append_left (by simpa using hi), List.getElem?_map] at h'
      cases ed : ds[i]? with
      | none => rw [ed] at h'; cases h'
      | some d2 => rw [ed] at h'; simpa using h'
    obtain ⟨v, e1, q⟩ := get hT e
    rw [Nat.zero_add] at q
    refine ⟨v, ?_, ?_⟩
    · have hv : i < vs.length := by rw [← hT.len]; exact hi
      unfold L2.start
      rw [List.getElem?_append_left (by simpa using hv), List.getElem?_map, e1]; rfl
    · refine Rp.mono (w := w.wth R) (w' := ⟨w.S, ownU w.own (ren tsl R), w.io⟩) (r := .temp i) (r' := .slot i) ⟨SLe.refl _, fun _ _ h => h, fun b p hb => ?_, fun _ _ _ _ h => h⟩ q
      have hb' : R b = some (.temp i, p) := hb
      show ownU w.own (ren tsl R) b = _
      rw [ownU_right (hR b (by rw [hb']; simp)).1]
      exact ren_some (f := tsl) hb'
  · show (ds.map some ++ List.replicate (N.length - ds.length) none).length = (L2.start N vs).length
    unfold L2.start
    simp [hT.len]
theorem run_args {k : Nat} {f : String} {fn : Fn} (hf : P.fn f = some fn) (ds : List D) (m : Mem) : run P (k + 1) false f ds m = match argsOf fn ds with
    | none => .bad
    | some as => finO false fn.keep m.length (xss (P.cl (run P k) m.length) fn.body ⟨as.map some ++ List.replicate (fn.nsl - fn.np) none, m⟩) := by
  show (match P.fn f with
    | none => Rr.bad
    | some fn => match argsOf fn ds with
      | none => .bad
      | some as => finO false fn.keep (if false then m.length - 1 else m.length) (xss (P.cl (run P k) (if false then m.length - 1 else m.length)) fn.body ⟨as.map some ++ List.replicate (fn.nsl - fn.np) none, m⟩)) = _
  rw [hf]; rfl
theorem run_fills {k : Nat} {f : String} {fn : Fn} (hf : P.fn f = some fn) (hd : fn.dfl.length ≤ fn.np) : Fills fn.np fn.dfl (run P (k + 1) false f) := by
  intro ds m h
  rw [run_args hf] at h
  unfold argsOf at h
  by_cases hl : fn.np - fn.dfl.length ≤ ds.length ∧ ds.length ≤ fn.np
  · rw [if_pos hl] at h
    refine ⟨hl.2, by omega, ?_⟩
    have e1 : (ds ++ fillD fn.dfl fn.np ds.length).length = fn.np := by
      rw [List.length_append, fillD_len hl.2 (by omega)]; omega
    rw [run_args hf, run_args hf]
    unfold argsOf
    rw [if_pos hl, if_pos ⟨by omega, by omega⟩, e1]
    have e2 : fn.dfl.drop (fn.np - (fn.np - fn.dfl.length)) = [] := List.drop_eq_nil_of_le (by omega)
    have e3 : fillD fn.dfl fn.np ds.length = fn.dfl.drop (ds.length - (fn.np - fn.dfl.length)) := by
      unfold fillD; congr 1; omega
    rw [e2, List.append_nil, e3]
  · rw [if_neg hl] at h; exact absurd rfl h
theorem fin_noex (keep : Bool) (n0 : Nat) (d : D) (st : Sg) (x : Xc) (m : Mem) : fin false keep n0 d st ≠ .ex x m := by
  unfold fin
  split
  · simp only [Bool.false_eq_true, if_false]
    split
    · split <;> simp
    · split <;> simp
  · simp
/-- a function by its body, where something may be handled: it calls nothing -/
theorem fn_stepH {fs cs fl gl ms xs xa : List String} {sm : List (String × String)} {j k : Nat} {f : String} {x qual : Str} {stm : Stmt} {ps : List Str} {fn : Fn} {c : Ck} {dvs : List V} {fa : Addr} {fd : FuncData} (wk : Wk W P ad nm fs cs fl gl ms sm xs xa mg)
    (hc : c.fl = fl ∧ c.gl = gl ∧ c.xa = xa ∧ c.ts = cs ++ xa) (T : FnT P c f stm ps fn) (hcb : c.calm = false ∧ c.tr = false ∧ c.hs = []) (hcf : c.fs = []) (hcc : c.cs = []) (hcm : c.ms = []) (hcs : c.sm = []) (hcx : c.xs = []) (D : FunD W.K x qual (defArgs stm) (defBody stm) (defScope stm) dvs [] fa fd) :
    FnGH prog wd W.K mg base (L2.CX prog wd) (j + 3) fa fd ps (spF W ps.length (run P (k + 1) false f)) := by
  obtain ⟨rfl, rfl, rfl, hts⟩ := hc
  refine FunD.okGH D T.S (fun _ _ _ _ h => h.1) fun cdv A outer s H vs Q E hr hsp => ?_
  obtain ⟨hlen, w, R, ds, m, sr, hR, hT, hP⟩ := hsp
  have hl : ds.length = ps.length := by rw [hT.len]; exact hlen
  have he : run P (k + 1) false f ds m = finO false fn.keep m.length (xss (P.cl (run P k) m.length) fn.body ⟨ds.map some ++ List.replicate (c.N.length - ds.length) none, m⟩) := by
    rw [run_args T.fnE]
    unfold argsOf
    have hn : ds.length = fn.np := by rw [hl, T.np]
    have hd := T.dfl
    rw [if_pos ⟨by omega, by omega⟩, List.drop_eq_nil_of_le (by omega), List.append_nil, T.nsl, ← hn]
  rw [he] at hP
  obtain ⟨hc1, hc2, hc3⟩ := hcb
  have g : Gd W (P.cl (run P k) m.length) c (cxN (L2.CX prog wd) prog wd W.K mg base c.N qual (defScope stm) fa cdv A outer s H E) (fun cls d _ H' => E cls d H') := {
    K := rfl
    sc := T.sc.symm
    N := rfl
    nd := T.S.nd
    calm := fun h => by rw [hc1] at h; cases h
    tk := takes_of rfl rfl rfl rfl
    po := passes_of rfl
    un := by have := hr.un; show (A.deeper _).units + 200 < cLine; omega
    grd := hr.g
    fn := fun _ _ _ => rfl
    gl := wk.gl
    con := wk.con
    blt := wk.blt
    cls := wk.cls
    na := wk.na
    cse := fun e he => by rw [hcc] at he; cases he
    tse := fun e he => by
      rw [hts] at he
      unfold Wd.ts
      rcases List.mem_append.mp he with h | h
      · exact List.mem_append_left _ (wk.cse e h)
      · exact List.mem_append_right _ (wk.xae e h).1
    tsg := fun e he => by
      rw [hts] at he
      rcases List.mem_append.mp he with h | h
      · exact wk.clg e h
      · exact (wk.xae e h).2
    nax := wk.nax
    xae := wk.xae
    stk := fun h => by rw [hc2] at h; cases h
    clg := fun e he => by rw [hcc] at he; cases he
    isi := wk.isi
    cal := fun h hh => by rw [hcf] at hh; cases hh
    hot := fun h hh => by rw [hc3] at hh; cases hh
    met := fun q hq mm hm => by rw [hcm] at hm; cases hm
    scm := fun q hq => by rw [hcs] at hq; cases hq
    mak := fun q hq => by rw [hcc] at hq; cases hq
    rai := fun q hq => by rw [hcx] at hq; cases hq }
  refine ⟨_, sndSs fn.body c _ _ _ g T.chk, ⟨w.S, ownU w.own (ren tsl R), w.io⟩, _, start_snd sr hR hT, ?_⟩
  have lf : ∀ {w' : Wh} {R' : Own} {H' : Hp}, Fr ⟨w.S, ownU w.own (ren tsl R), w.io⟩ H w' R' H' → Fr ⟨w.S, ownU w.own R, w.io⟩ H w' R' H' := fun f' => f'.left rfl rfl fun x => by
    show ownU w.own R x = none ↔ ownU w.own (ren tsl R) x = none
    unfold ownU ren
    cases w.own x with
    | some t => simp
    | none => cases R x <;> simp
  have hio : w.io.length = m.length := sr.iol
  revert hP
  cases ho : xss (P.cl (run P k) m.length) fn.body ⟨ds.map some ++ List.replicate (c.N.length - ds.length) none, m⟩ with
  | bad => exact fun h => h
  | ex x st =>
    intro hP
    have hP' : PostC W w R H Q E (if tidy m.length (st.m.take m.length) then .ex x (st.m.take m.length) else .bad) := hP
    by_cases ht : tidy m.length (st.m.take m.length) = true
    · rw [if_pos ht] at hP'
      intro w' σ' H' dd vs' f' s' q1 q2 q3
      have hlen : m.length ≤ w'.io.length := by
        rw [← hio]
        rcases Nat.lt_or_ge w'.io.length w.io.length with z | z
        · exfalso
          obtain ⟨a, ha⟩ : ∃ a, w.io[w'.io.length]? = some a := ⟨_, List.getElem?_eq_getElem z⟩
          have := f'.io _ _ ha
          rw [List.getElem?_eq_none (Nat.le_refl _)] at this
          cases this
        · exact z
      have hml : (st.m.take m.length).length = m.length := by
        have := s'.iol
        rw [List.length_take]; omega
      obtain ⟨f3, s3⟩ := cut_snd (W := W) f' hio s'.sle s'.sno hlen (fun j c hj hc => s'.cel j c (by rw [List.getElem?_take_of_lt hj] at hc; exact hc)) ht hml
      exact hP' _ H' dd vs' (lf f3) s3 q1 q2 q3
    · rw [if_neg ht] at hP'; exact hP'.elim
  | nx st =>
    intro hP w' σ' H' f' s'
    have hP' : PostC W w R H Q E (fin false fn.keep m.length .non st) := hP
    cases hf : fin false fn.keep m.length .non st with
    | bad => rw [hf] at hP'; exact hP'.elim
    | ex x m' => exact absurd hf (fin_noex _ _ _ _ _ _)
    | ok e m' =>
      rw [hf] at hP'
      obtain ⟨w2, R2, f2, s2, h2⟩ := fin_snd hf f' s' (v := .non) (by simp only [Rp]) hio
      exact hP' w2 R2 H' .non (lf f2) s2 h2
  | rt d st =>
    intro hP w' R' σ' H' v f' s' hv
    have hP' : PostC W w R H Q E (fin false fn.keep m.length d st) := hP
    cases hf : fin false fn.keep m.length d st with
    | bad => rw [hf] at hP'; exact hP'.elim
    | ex x m' => exact absurd hf (fin_noex _ _ _ _ _ _)
    | ok e m' =>
      rw [hf] at hP'
      obtain ⟨w2, R2, f2, s2, h2⟩ := fin_snd hf f' s' hv hio
      exact hP' w2 R2 H' v (lf f2) s2 h2
/-- a function by its body -/
theorem fn_step {fs cs fl gl ms xs xa : List String} {sm : List (String × String)} {j k : Nat} {f : String} {x qual : Str} {stm : Stmt} {ps : List Str} {fn : Fn} {c : Ck} {dvs : List V} {fa : Addr} {fd : FuncData} (wk : Wk W P ad nm fs cs fl gl ms sm xs xa mg)
    (hc : c.fs = fs ∧ c.cs = cs ∧ c.fl = fl ∧ c.gl = gl ∧ c.ms = ms ∧ c.sm = sm ∧ c.xs = xs ∧ c.xa = xa ∧ c.ts = cs ++ xa) (T : FnT P c f stm ps fn) (D : FunD W.K x qual (defArgs stm) (defBody stm) (defScope stm) dvs [] fa fd) (hhs : ∀ h ∈ c.hs, h ∈ fs) (ihh : ∀ h ∈ c.hs, FnVH W P prog wd mg base ad j k h) (ih : ∀ g ∈ nm, FnV W P prog wd mg base ad j k g) :
    FnG prog wd W.K mg base (L2.CX prog wd) (j + 3) fa fd ps (spF W ps.length (run P (k + 1) false f)) := by
  obtain ⟨rfl, rfl, rfl, rfl, rfl, rfl, rfl, rfl, hts⟩ := hc
  refine FunD.okG D T.S (fun _ _ _ _ h => h.1) fun cdv A outer s H vs Q E hr hsp => ?_
  obtain ⟨hlen, w, R, ds, m, sr, hR, hT, hP⟩ := hsp
  have hl : ds.length = ps.length := by rw [hT.len]; exact hlen
  have he : run P (k + 1) false f ds m = finO false fn.keep m.length (xss (P.cl (run P k) m.length) fn.body ⟨ds.map some ++ List.replicate (c.N.length - ds.length) none, m⟩) := by
    rw [run_args T.fnE]
    unfold argsOf
    have hn : ds.length = fn.np := by rw [hl, T.np]
    have hd := T.dfl
    rw [if_pos ⟨by omega, by omega⟩, List.drop_eq_nil_of_le (by omega), List.append_nil, T.nsl, ← hn]
  rw [he] at hP
  have hcal : ∀ h ∈ nm, ∀ X' E', Kin (cxOf (L2.CX prog wd) prog wd W.K mg base c.N qual (defScope stm) fa cdv A outer s H E) X' → Takes X' E' → CallS X' (.ref (ad h)) (rCal W E' (run P k false h)) := fun h hh X' E' kin tk => by
    obtain ⟨fd2, ps2, dfl2, F2, b2, l2, _⟩ := ih h hh
    refine call_of (k := j) (ps := ps2) (fd := fd2) (dfl := dfl2) tk ?_ ?_ ?_ l2
    · rw [kin.prog, kin.w, kin.K, kin.mg, kin.base]; exact F2
    · rw [kin.A]; exact hr.mono (by omega)
    · rw [kin.K]; exact b2
  have g : Gd W (P.cl (run P k) m.length) c (cxOf (L2.CX prog wd) prog wd W.K mg base c.N qual (defScope stm) fa cdv A outer s H E) (fun cls d _ H' => E cls d H') := {
    K := rfl
    sc := T.sc.symm
    N := rfl
    nd := T.S.nd
    calm := fun _ => rfl
    tk := takes_of rfl rfl rfl rfl
    po := passes_of rfl
    un := by have := hr.r.un; show (A.deeper _).units + 200 < cLine; omega
    grd := hr.g
    fn := fun _ _ _ => rfl
    gl := wk.gl
    con := wk.con
    blt := wk.blt
    cls := wk.cls
    na := wk.na
    cse := wk.cse
    tse := fun e he => by
      rw [hts] at he
      unfold Wd.ts
      rcases List.mem_append.mp he with h | h
      · exact List.mem_append_left _ (wk.cse e h)
      · exact List.mem_append_right _ (wk.xae e h).1
    tsg := fun e he => by
      rw [hts] at he
      rcases List.mem_append.mp he with h | h
      · exact wk.clg e h
      · exact (wk.xae e h).2
    nax := wk.nax
    xae := wk.xae
    stk := fun _ => ⟨rfl, rfl, rfl⟩
    clg := wk.clg
    isi := wk.isi
    cal := fun h hh => by
      obtain ⟨h1, h2⟩ := wk.fsn h hh
      obtain ⟨fd2, ps2, dfl2, F2, b2, l2, k2⟩ := ih h h1
      exact ⟨ad h, h2, k2, fun X' E' kin tk => hcal h h1 X' E' kin tk⟩
    hot := fun h hh => by
      obtain ⟨h1, h2⟩ := wk.fsn h (hhs h hh)
      obtain ⟨fd2, ps2, dfl2, F2, b2, l2, k2⟩ := ihh h hh
      refine ⟨ad h, h2, k2, fun X' E' kin tk => call_ofH (k := j) (ps := ps2) (fd := fd2) (dfl := dfl2) tk ?_ ?_ ?_ l2⟩
      · rw [kin.prog, kin.w, kin.K, kin.mg, kin.base]; exact F2
      · have q := hr.mono (j := j) (by omega)
        exact ⟨by rw [kin.dp]; exact q.r.dp, by rw [kin.un]; exact q.r.un, by rw [kin.gd]; exact q.g⟩
      · rw [kin.K]; exact b2
    met := fun q hq mm hm h hh => by
      obtain ⟨h1, h2⟩ := wk.met q hq mm hm h hh
      exact ⟨ad h, h2, fun X' E' kin tk => hcal h h1 X' E' kin tk⟩
    scm := fun q hq h hh => by
      obtain ⟨h1, C, mc, h2, h3, h4⟩ := wk.scm q hq h hh
      obtain ⟨fd2, ps2, dfl2, F2, b2, l2, k2⟩ := ih h h1
      exact ⟨C, mc, ad h, h2, h3, h4, k2, fun X' E' kin tk => hcal h h1 X' E' kin tk⟩
    mak := fun q hq => by
      obtain ⟨h1, h2, h3⟩ := wk.mak q hq
      refine ⟨h1, fun X' E' kin tk => ?_⟩
      cases hi : P.ini q with
      | none =>
        intro pins s σ H vs us Q I r z
        obtain ⟨w, H0, w1, R, ds, st, fr, sr, hT, hP⟩ := z
        have e : mkR (P.cl (run P k) m.length) q ds st.m = .bad := by
          unfold mkR
          rw [show (P.cl (run P k) m.length).ini q = none from hi]
        rw [e] at hP; exact hP.elim
      | some o =>
        cases o with
        | none =>
          obtain ⟨h4, h5⟩ := h3 hi
          refine make_of0 (F := P.cl (run P k) m.length) hi (wk.cse q hq) ?_ ?_
          · rw [kin.K]; exact h4
          · rw [kin.K]; exact h5
        | some h =>
          obtain ⟨h4, h5⟩ := h2 h hi
          obtain ⟨fd2, ps2, dfl2, F2, b2, l2, k2⟩ := ih h h4
          refine make_of (F := P.cl (run P k) m.length) (lv := j) (fI := ad h) (fd := fd2) (ps := ps2) (dfl := dfl2) hi (wk.cse q hq) ?_ tk ?_ ?_ ?_ l2
          · rw [kin.K]; exact h5
          · rw [kin.prog, kin.w, kin.K, kin.mg, kin.base]; exact F2
          · rw [kin.A]; exact hr.mono (by omega)
          · rw [kin.K]; exact b2
    rai := fun q hq => by
      obtain ⟨h1, h2⟩ := wk.exc q hq
      have h3 := h2
      obtain ⟨f, _, _, _, _, _, _, _, _, _, _, _, hx⟩ := h2
      refine ⟨h1, f, hx.exc, fun Y kin hA => ?_⟩
      obtain ⟨f', e', h4⟩ := rai_of (X := Y) (P := P) (by rw [kin.mg]; exact h3) (by rw [kin.K]; rfl) (by rw [kin.A]; exact (hr.mono (by omega)).r)
      have e2 := hx.exc
      rw [e'] at e2
      cases e2
      exact h4 }
  refine ⟨_, sndSs fn.body c _ _ _ g T.chk, ⟨w.S, ownU w.own (ren tsl R), w.io⟩, _, start_snd sr hR hT, ?_⟩
  have lf : ∀ {w' : Wh} {R' : Own} {H' : Hp}, Fr ⟨w.S, ownU w.own (ren tsl R), w.io⟩ H w' R' H' → Fr ⟨w.S, ownU w.own R, w.io⟩ H w' R' H' := fun f' => f'.left rfl rfl fun x => by
    show ownU w.own R x = none ↔ ownU w.own (ren tsl R) x = none
    unfold ownU ren
    cases w.own x with
    | some t => simp
    | none => cases R x <;> simp
  have hio : w.io.length = m.length := sr.iol
  revert hP
  cases ho : xss (P.cl (run P k) m.length) fn.body ⟨ds.map some ++ List.replicate (c.N.length - ds.length) none, m⟩ with
  | bad => exact fun h => h
  | ex x st =>
    intro hP
    have hP' : PostC W w R H Q E (if tidy m.length (st.m.take m.length) then .ex x (st.m.take m.length) else .bad) := hP
    by_cases ht : tidy m.length (st.m.take m.length) = true
    · rw [if_pos ht] at hP'
      intro w' σ' H' dd vs' f' s' q1 q2 q3
      have hlen : m.length ≤ w'.io.length := by
        rw [← hio]
        rcases Nat.lt_or_ge w'.io.length w.io.length with z | z
        · exfalso
          obtain ⟨a, ha⟩ : ∃ a, w.io[w'.io.length]? = some a := ⟨_, List.getElem?_eq_getElem z⟩
          have := f'.io _ _ ha
          rw [List.getElem?_eq_none (Nat.le_refl _)] at this
          cases this
        · exact z
      have hml : (st.m.take m.length).length = m.length := by
        have := s'.iol
        rw [List.length_take]; omega
      obtain ⟨f3, s3⟩ := cut_snd (W := W) f' hio s'.sle s'.sno hlen (fun j c hj hc => s'.cel j c (by rw [List.getElem?_take_of_lt hj] at hc; exact hc)) ht hml
      exact hP' _ H' dd vs' (lf f3) s3 q1 q2 q3
    · rw [if_neg ht] at hP'; exact hP'.elim
  | nx st =>
    intro hP w' σ' H' f' s'
    have hP' : PostC W w R H Q E (fin false fn.keep m.length .non st) := hP
    cases hf : fin false fn.keep m.length .non st with
    | bad => rw [hf] at hP'; exact hP'.elim
    | ex x m' => exact absurd hf (fin_noex _ _ _ _ _ _)
    | ok e m' =>
      rw [hf] at hP'
      obtain ⟨w2, R2, f2, s2, h2⟩ := fin_snd hf f' s' (v := .non) (by simp only [Rp]) hio
      exact hP' w2 R2 H' .non (lf f2) s2 h2
  | rt d st =>
    intro hP w' R' σ' H' v f' s' hv
    have hP' : PostC W w R H Q E (fin false fn.keep m.length d st) := hP
    cases hf : fin false fn.keep m.length d st with
    | bad => rw [hf] at hP'; exact hP'.elim
    | ex x m' => exact absurd hf (fin_noex _ _ _ _ _ _)
    | ok e m' =>
      rw [hf] at hP'
      obtain ⟨w2, R2, f2, s2, h2⟩ := fin_snd hf f' s' hv hio
      exact hP' w2 R2 H' v (lf f2) s2 h2
end
theorem lookup_zip : ∀ {ps : List Str} {us : List Value} {n : Str}, us.length = ps.length → n ∈ ps → ((ps.zip us).lookup n).isNone = false
  | [], _, _, _, h => by simp at h
  | p :: ps, [], _, h, _ => by simp at h
  | p :: ps, u :: us, n, h, hn => by
    simp only [List.zip_cons_cons, List.lookup_cons]
    by_cases e : n = p
    · subst e; simp
    · have : (n == p) = false := by simpa using e
      rw [this]
      exact lookup_zip (by simpa using h) (by simpa [e] using hn)
theorem filterMap_zip : ∀ {ps : List Str} {us : List Value} {al : List (Str × Value)}, us.length = ps.length → ps.Nodup → (∀ n ∈ ps, al.lookup n = none) → ps.filterMap (fun n => ((al ++ ps.zip us).lookup n).map fun x => (n, x)) = ps.zip us
  | [], us, al, _, _, _ => by simp
  | p :: ps, [], _, h, _, _ => by simp at h
  | p :: ps, u :: us, al, h, hn, ha => by
    simp only [List.nodup_cons] at hn
    have e1 : (al ++ (p, u) :: ps.zip us).lookup p = some u := by
      rw [List.lookup_append, ha p (by simp)]; simp
    have e2 : (al ++ (p, u) :: ps.zip us) = (al ++ [(p, u)]) ++ ps.zip us := by simp
    simp only [List.zip_cons_cons, List.filterMap_cons, e1, Option.map_some]
    congr 1
    rw [e2]
    refine filterMap_zip (by simpa using h) hn.2 fun n hn2 => ?_
    rw [List.lookup_append, ha n (by simp [hn2])]
    have : (n == p) = false := by
      rw [beq_eq_false_iff_ne]; rintro rfl; exact hn.1 hn2
    simp [List.lookup_cons, this]
theorem bind_plain0 {x qual : Str} {ar : List Arg} {body : List Stmt} {scope : Scope} {kV doc pm : Value} {an : Option Addr} {cdv ct : Value} {us : List Value} {df : List Expr} (nd : (ar.map (·.arg)).Nodup) (hl : us.length = ar.length) :
    bindArgs (PySem.W.fnOf x qual ⟨[], ar, none, [], [], none, df⟩ body scope .none kV doc pm an cdv ct) ⟨us, []⟩ = pure ((ar.map (·.arg)).zip us) := by
  have hl' : us.length = (ar.map (·.arg)).length := by simpa using hl
  have hm : ∀ k, (List.filter (fun n => (List.lookup n ((ar.map (·.arg)).zip us)).isNone) (List.take k (ar.map (·.arg)))) = [] := by
    intro k
    rw [List.filter_eq_nil_iff]
    intro n hn
    rw [lookup_zip hl' (List.mem_of_mem_take hn)]; simp
  have fz := filterMap_zip (al := []) hl' nd (fun _ _ => rfl)
  unfold bindArgs PySem.W.fnOf
  simp [hm, seqItems?, hl]
  rw [show notAStandIn Value.none = (pure () : Sem Unit) from rfl]
  rw [map_pure]
  congr 1
  rw [← List.filterMap_map]
  rw [List.nil_append] at fz
  exact fz

/-- a def of the text: its name, its class and its own name there, statement, parameters, names, core term -/
structure Row where
  f : String
  cm : Option (String × String)
  stm : Stmt
  ps : List Str
  N : List Str
  fn : Fn
def Row.at_ (r : Row) : Str × Option Str := match r.cm with
  | none => (sn r.f, none)
  | some (c, m) => (sn c, some (sn m))
def Row.nam (r : Row) : Str := match r.cm with
  | none => sn r.f
  | some (_, m) => sn m
def plainA' (a : Arguments) (ps : List Str) : Bool := a.posonlyargs.isEmpty && decide (a.args.map (·.arg) = ps) && a.vararg.isNone && a.kwonlyargs.isEmpty && a.kw_defaults.isEmpty && a.kwarg.isNone
def Row.ck (fs cs fl gl ms : List String) (sm : List (String × String)) (xs xa hs : List String) (r : Row) : Ck := ⟨fs, cs, fl, defScope r.stm, r.N, true, gl, ms, sm, xs, cs ++ xa, true, true, xa, hs⟩
/-- .. where something may be handled: it calls nothing of the text -/
def Row.ckH (cs fl gl xa : List String) (r : Row) : Ck := ⟨[], [], fl, defScope r.stm, r.N, true, gl, [], [], [], cs ++ xa, false, false, xa, []⟩
def Row.hot (cs fl gl xa : List String) (r : Row) : Bool := r.cm.isNone && chkSs r.fn.body (r.ckH cs fl gl xa) (defBody r.stm)
def Row.ok (fs cs fl gl ms : List String) (sm : List (String × String)) (xs xa hs : List String) (r : Row) : Bool := chkSs r.fn.body (r.ck fs cs fl gl ms sm xs xa hs) (defBody r.stm) && C8.scC r.N r.ps (defScope r.stm) && decide (r.fn.dfl.length ≤ r.fn.np) && r.fn.dfl.all scB && decide (r.fn.np = r.ps.length) && decide (r.fn.nsl = r.N.length) && plainA' (defArgs r.stm) r.ps && decide r.ps.Nodup
section
variable {W : Wd} {P : Prog} {prog : Program} {wd : World} {mg : Str → Option Value} {base : Heap} {fs cs fl gl ms xs xa hs : List String} {sm : List (String × String)} {rows : List Row} {ad : String → Addr}
theorem Row.text {r : Row} (h : r.ok fs cs fl gl ms sm xs xa hs = true) (hP : P.fn r.f = some r.fn) : FnT P (r.ck fs cs fl gl ms sm xs xa hs) r.f r.stm r.ps r.fn := by
  simp only [Row.ok, Bool.and_eq_true, decide_eq_true_eq] at h
  obtain ⟨⟨⟨⟨⟨⟨⟨h1, h2⟩, h3⟩, h4⟩, h5⟩, h6⟩, h7⟩, h8⟩ := h
  exact ⟨hP, h3, h5, h6, rfl, C8.fnScope_by h2, h1⟩
theorem Row.textH {r : Row} (h : r.ok fs cs fl gl ms sm xs xa hs = true) (hh : r.hot cs fl gl xa = true) (hP : P.fn r.f = some r.fn) : FnT P (r.ckH cs fl gl xa) r.f r.stm r.ps r.fn := by
  simp only [Row.ok, Bool.and_eq_true, decide_eq_true_eq] at h
  obtain ⟨⟨⟨⟨⟨⟨⟨h1, h2⟩, h3⟩, h4⟩, h5⟩, h6⟩, h7⟩, h8⟩ := h
  simp only [Row.hot, Bool.and_eq_true] at hh
  exact ⟨hP, h3, h5, h6, rfl, C8.fnScope_by h2, hh.2⟩
theorem vals_drop {vs : List V} {us : List Value} {n : Nat} (h : Vals vs us) : Vals (vs.drop n) (us.drop n) := h.drop n
theorem Row.binds {K : PySem.W.Frag} {r : Row} {fa : Addr} {fd : FuncData} {x qual : Str} (h : r.ok fs cs fl gl ms sm xs xa hs = true) (D : FunD K x qual (defArgs r.stm) (defBody r.stm) (defScope r.stm) (r.fn.dfl.map dV) [] fa fd) : BindsD K fd r.ps r.fn.dfl := by
  simp only [Row.ok, Bool.and_eq_true, decide_eq_true_eq] at h
  obtain ⟨⟨⟨⟨⟨⟨⟨h1, h2⟩, h3⟩, h4⟩, h5⟩, h6⟩, h7⟩, h8⟩ := h
  refine ⟨h4, fun n hn1 hn2 => ?_⟩
  by_cases he : r.fn.dfl = []
  · rw [he] at D hn2 ⊢
    simp only [List.length_nil, Nat.add_zero] at hn2
    refine ⟨[], by unfold fillD; simp; exact .nil, ?_⟩
    refine D.bindsN fun kV doc pm an cdv ct us hl => ?_
    have hp : plainA' (defArgs r.stm) r.ps = true := h7
    generalize defArgs r.stm = ar at hp D ⊢
    obtain ⟨po, a, va, ko, kd, kw, df⟩ := ar
    simp only [plainA', Bool.and_eq_true, List.isEmpty_iff, Option.isNone_iff_eq_none, decide_eq_true_eq] at hp
    obtain ⟨⟨⟨⟨⟨rfl, hps⟩, rfl⟩, rfl⟩, rfl⟩, rfl⟩ := hp
    have := bind_plain0 (x := x) (qual := qual) (ar := a) (df := df) (body := defBody r.stm) (scope := defScope r.stm) (kV := kV) (doc := doc) (pm := pm) (an := an) (cdv := cdv) (ct := ct) (us := us) (by rw [hps]; exact h8) (by rw [← hps, List.length_map] at hl; exact hl)
    rw [hps] at this
    exact this
  · have hne : r.fn.dfl.map dV ≠ [] := by simpa using he
    have hj : (r.fn.dfl.map dV).length = r.fn.dfl.length := List.length_map ..
    have hp : plainA' (defArgs r.stm) r.ps = true := h7
    obtain ⟨ds, hv, hb⟩ := D.binds1 (ps := r.ps) n (n + r.fn.dfl.length - r.ps.length) hne (by rw [hj]; omega) (by
      intro T kV doc pm an cdv ct us its hu hi
      clear D
      generalize defArgs r.stm = ar at hp ⊢
      obtain ⟨po, a, va, ko, kd, kw, df⟩ := ar
      simp only [plainA', Bool.and_eq_true, List.isEmpty_iff, Option.isNone_iff_eq_none, decide_eq_true_eq] at hp
      obtain ⟨⟨⟨⟨⟨rfl, hps⟩, rfl⟩, rfl⟩, rfl⟩, rfl⟩ := hp
      rw [hj] at hi
      have hlen : a.length = r.ps.length := by rw [← hps, List.length_map]
      obtain ⟨k, e1, e2⟩ := bind_dfl (x := x) (qual := qual) (ar := a) (df := df) (body := defBody r.stm) (scope := defScope r.stm) (kV := kV) (doc := doc) (pm := pm) (an := an) (cdv := cdv) (ct := ct) (us := us) (its := its) (T := T) (by rw [hps]; exact h8)
        (by rw [hi, hlen, ← h5]; exact h3) (by rw [hi, hlen, hu]; exact hn2) (by rw [hu, hlen]; exact hn1)
      rw [hps, hlen, hi, hu] at e2
      exact ⟨k, e1, e2⟩)
    refine ⟨ds, ?_, hb⟩
    unfold fillD
    rw [List.map_drop]; exact hv
/-- every def keeps its promise, at every depth -/
theorem all_fns (wk : Wk W P ad (rows.map (·.f)) fs cs fl gl ms sm xs xa mg) (hhs : ∀ h ∈ hs, h ∈ fs ∧ ∃ r ∈ rows, r.f = h ∧ r.hot cs fl gl xa = true) (hok : ∀ r ∈ rows, r.ok fs cs fl gl ms sm xs xa hs = true ∧ P.fn r.f = some r.fn ∧ ∃ fd, FunD W.K r.nam (sn r.f) (defArgs r.stm) (defBody r.stm) (defScope r.stm) (r.fn.dfl.map dV) [] (ad r.f) fd) :
    ∀ k, ∀ r ∈ rows, ∀ fd, FunD W.K r.nam (sn r.f) (defArgs r.stm) (defBody r.stm) (defScope r.stm) (r.fn.dfl.map dV) [] (ad r.f) fd → FnG prog wd W.K mg base (L2.CX prog wd) (3 * k) (ad r.f) fd r.ps (spF W r.ps.length (run P k false r.f)) := by
  intro k
  induction k with
  | zero =>
    intro r hr fd D
    exact ⟨fun _ _ _ _ h => (spF_bad (fun _ _ => rfl) h).elim, fun _ _ _ _ _ _ _ _ _ _ _ _ _ h => (spF_bad (fun _ _ => rfl) h).elim⟩
  | succ k ih =>
    intro r hr fd D
    obtain ⟨h1, h2, _⟩ := hok r hr
    refine fn_step (j := 3 * k) wk ⟨rfl, rfl, rfl, rfl, rfl, rfl, rfl, rfl, rfl⟩ (Row.text h1 h2) D (fun h hh => (hhs h hh).1) (fun h hh => ?_) fun g hg => ?_
    · obtain ⟨_, r2, hr2, rfl, hot⟩ := hhs h hh
      obtain ⟨h3, h4, fd2, D2⟩ := hok r2 hr2
      have T2 := Row.textH h3 hot h4
      refine ⟨fd2, r2.ps, r2.fn.dfl, ?_, Row.binds h3 D2, ?_, D2.kp⟩
      · cases k with
        | zero => exact ⟨fun _ _ _ _ h => (spF_bad (fun _ _ => rfl) h).elim, fun _ _ _ _ _ _ _ _ _ _ _ _ _ h => (spF_bad (fun _ _ => rfl) h).elim⟩
        | succ k => exact fn_stepH (j := 3 * k) wk ⟨rfl, rfl, rfl, rfl⟩ T2 ⟨rfl, rfl, rfl⟩ rfl rfl rfl rfl rfl D2
      · cases k with
        | zero => exact fun _ _ h => absurd rfl h
        | succ k => rw [← T2.np]; exact run_fills h4 T2.dfl
    obtain ⟨r2, hr2, rfl⟩ := List.mem_map.mp hg
    obtain ⟨h3, h4, fd2, D2⟩ := hok r2 hr2
    refine ⟨fd2, r2.ps, r2.fn.dfl, ih r2 hr2 fd2 D2, Row.binds h3 D2, ?_, D2.kp⟩
    have T2 := Row.text h3 h4
    cases k with
    | zero => exact fun _ _ h => absurd rfl h
    | succ k => rw [← T2.np]; exact run_fills h4 T2.dfl
/-- no list stands in the written part -/
def noList (K : PySem.W.Frag) : Bool := K.all fun q => !(q.2.cls == Value.type "list")
theorem lookup_memK {a : Addr} {o : Obj} : ∀ {K : List (Addr × Obj)}, K.lookup a = some o → ∃ q ∈ K, q.2 = o
  | [], h => by simp at h
  | (b, u) :: r, h => by
    simp only [List.lookup_cons] at h
    split at h
    · exact ⟨(b, u), by simp, Option.some.inj h⟩
    · obtain ⟨q, hq, e⟩ := lookup_memK h
      exact ⟨q, by simp [hq], e⟩
/-- the law's call, at the script -/
theorem script_snd {g : List D → Mem → Rr} {H : Hp} {a : Addr} {ns : List Int} (hn : noList W.K = true) (hO : Only H) (hS : SqL W.K H a (ns.map V.int)) (hg : g [.node false .slst (ns.map D.int)] [] = .ok (.bl true) []) :
    spF W 1 g [.ref a] H (fun v _ => v = .bl true) fun _ _ _ => False := by
  have fz : ∃ ob, H a = some (.frz ob (.lst (ns.map V.int))) := by
    rcases hS with (h | h) | ⟨o, its, n, h, hc, _⟩
    · rcases hO a with z | ⟨ob, xs, z⟩
      · rw [z] at h; cases h
      · rw [z] at h; cases h
    · exact h
    · obtain ⟨q, hq, e⟩ := lookup_memK h
      have := List.all_eq_true.mp hn q hq
      rw [e, hc] at this
      simp at this
  obtain ⟨ob, ha⟩ := fz
  have intsR : ∀ {S : Hp} {l : List Int}, RpSL W S (l.map D.int) (l.map V.int) := by
    intro S l
    induction l with
    | nil => simp [RpSL]
    | cons x l ih => simp only [List.map_cons, RpSL]; exact ⟨.int x, _, rfl, rpS_int x, ih⟩
  refine ⟨rfl, ⟨fun x => if x = a then H a else none, fun _ => none, []⟩, noR, [.node false .slst (ns.map D.int)], [], ⟨fun b u h => ?_, fun b t h => (by cases h), rfl, fun n d h => (by simp at h), fun i d h => ?_, rfl⟩, fun x h => absurd rfl h, ?_, ?_⟩
  · have h' : (if b = a then H a else none) = some u := h
    split at h'
    · rename_i e; subst e; exact RdX.of h'
    · cases h'
  · have h' : ([] : List (Option D))[i]? = some (some d) := h
    simp at h'
  · simp only [RpT]
    refine ⟨.ref a, [], rfl, ?_, rfl⟩
    simp only [Rp]
    exact ⟨a, ns.map V.int, rfl, ⟨_, (by show (if a = a then H a else none) = _; rw [if_pos rfl]; exact ha), ob, rfl⟩, intsR⟩
  · rw [hg]
    intro w' R' H' v f s hv
    simpa only [Rp] using hv
end
end VS
/-! VS31b: the law's call, where no repr is under way. -/
namespace VS
open PySem PySem.Spec L2
open PyProof.Rows hiding St
theorem law_callG {P : Program} {w : World} {K : PySem.W.Frag} {mg mb : Str → Option Value} {CX : CXT} {k : Nat} {fa a : Addr} {fd : FuncData} {x : Str} {sp : Sp} {s₁ : Shared} {vs : List Value} {ns : List Int}
    (KX : K.In s₁.heap) (hns : s₁.heap.Ns mainGlobals mg) (hb : s₁.heap.Ns builtinsNs mb) (hbb : ∀ (x : Str), x ≠ Str.ofString "__name__" → mb x = bootBuiltins x) (hlim : s₁.heap.NoLimit) (hg : s₁.gens = #[])
    (ha : s₁.heap.get? a = some { cls := Value.type "list", data := Data.seq vs.toArray }) (hi : PyProof.Rows.IntsAre vs ns) (hl : ns.length ≤ sizeLine) (hr : Room k callerA) (nl : noList K = true)
    (F : ∀ (base : Heap), K.In base → base.Ns mainGlobals mg → FnG P w K mg base CX k fa fd [x] sp) (hbind : ∀ (s : Shared) (u : Value), BindsTo s fd { pos := [u] } [(x, u)])
    (hsp : ∀ (H : Hp), Only H → SqL K H a (List.map V.int ns) → sp [V.ref a] H (fun v _ => v = V.bl true) fun _ _ _ => False) (hCX : ∀ (H : Hp) (e : Value) (s' : Shared), CX [] H s₁ (fun _ _ _ => False) e s' → False) :
    codeAny (model P w) callerA (Code.call (Value.ref fa) { pos := [Value.ref a] }) (fun r s' => r = Except.ok (Flow.ret (Value.bool true)) ∧ OldK s₁.heap s'.heap ∧ s'.os = s₁.os ∧ PyProof.Rows.AllBare s'.gens) s₁ := by
  have rv := vals_ints hi
  have lenV := PyProof.Rows.IntsAre.length hi
  have hk : K.lookup a = none := by
    cases e : K.lookup a with
    | none => rfl
    | some o =>
      obtain ⟨q, hq, e2⟩ := lookup_memK e
      have := List.all_eq_true.mp nl q hq
      have e3 := KX a o e
      rw [ha] at e3; cases e3
      rw [e2] at this
      simp at this
  let H : Hp := fun b => if b = a then some (.frz { cls := Value.type "list", data := Data.seq vs.toArray } (.lst (List.map V.int ns))) else none
  have Ha : H a = some (.frz { cls := Value.type "list", data := Data.seq vs.toArray } (.lst (List.map V.int ns))) := if_pos rfl
  have Hn : ∀ b, b ≠ a → H b = none := fun b h => if_neg h
  have hO : Only H := fun b => by
    by_cases e : b = a
    · exact .inr ⟨_, _, by rw [e]; exact Ha⟩
    · exact .inl (Hn b e)
  have hS : SqL K H a (List.map V.int ns) := .inl (.inr ⟨_, Ha⟩)
  have hok : HOk P w H s₁.heap := fun b u z => by
    by_cases e : b = a
    · subst e
      rw [Ha] at z; cases z
      exact ⟨ha, by rw [List.length_map]; exact hl, vs, 0, rv, ha⟩
    · rw [Hn b e] at z; cases z
  have nsK : ∀ {b : Addr} {m : Str → Option Value}, s₁.heap.Ns b m → (hidT s₁.heap H).Ns b m := fun {b m} q => by
    obtain ⟨o, es, ep, e, d, r⟩ := q
    refine ⟨o, es, ep, hidT_get e (Hn b fun z => ?_), d, r⟩
    subst z
    rw [ha] at e; cases e; cases d
  have hKb : ∀ b o, K.lookup b = some o → (hidT s₁.heap H).get? b = some o := fun b o e => hidT_get (KX b o e) (Hn b fun z => by subst z; rw [hk] at e; cases e)
  have hM : L2.Mod K mg (hidT s₁.heap H) := { kin := hKb, glob := nsK hns, blt := ⟨mb, nsK hb, hbb⟩, nolimit := by obtain ⟨mc, h1, h2⟩ := hlim; exact ⟨mc, nsK h1, h2⟩ }
  have e0 : Env0 P w K mg (hidT s₁.heap H) callerA [] s₁ H :=
    { frames := rfl, mod := hM, bs := fun b o e => of_hidT e, bsz := Nat.le_of_eq (hidT_size s₁.heap H), funs := trivial, frf := fun b hb => (nomatch (show b ∈ ([] : List Addr) from hb)), hok := hok, bare := PyProof.Rows.AllBare.of_eq hg }
  refine codeAny_mono ((F (hidT s₁.heap H) hKb (nsK hns)).run callerA [] s₁ H { pos := [Value.ref a] } [Value.ref a] [V.ref a] (fun v _ => v = V.bl true) (fun _ _ _ => False) ⟨hr, rfl⟩ e0 (hbind s₁ (Value.ref a)) (Paired.cons rfl Paired.nil) (hsp H hO hS)) fun r s' h => ?_
  match r, h with
  | .error e, h => exact (hCX H e s' h).elim
  | .ok .next, h => exact False.elim h
  | .ok .brk, h => exact False.elim h
  | .ok .cont, h => exact False.elim h
  | .ok (.ret u), h =>
    obtain ⟨v, H', os, bare, un, hok', r', q⟩ := h
    have q' : v = V.bl true := q
    subst q'
    have r2 : u = .bool true := r'
    subst r2
    refine ⟨rfl, OldK.of_keep fun b o e => ?_, os, bare⟩
    by_cases z : b = a
    · subst z
      obtain ⟨g1, _⟩ := hok' b _ (un.frzs b _ _ Ha)
      rw [ha] at e; cases e
      exact g1
    · exact un.keep b o e (Hn b z) (fun h => nomatch (show b ∈ ([] : List Addr) from h)) (fun h => nomatch (show b ∈ ([] : List Addr) from h))
theorem walk_ofG {l : PySem.W.OpenLaw} {n k : Nat} {q : Program} {loose : List Str} {XP : (Str → Option Value) → Heap → Prop} {YP : World → Heap → Prop} {d : DefRec} {CX : CXT} {x : Str} (hn : l.most = some n) (hn2 : n ≤ sizeLine) (hdf : d.params.defaults = []) (hr : Room k callerA)
    (F : ∀ (w : World) (mg : Str → Option Value) (fa : Addr) (h : Heap), YP w h → h.Ns mainGlobals mg → mg d.name = some (Value.ref fa) →
      ∃ K fd sp, K.In h ∧ noList K = true ∧ (∀ (s : Shared) (u : Value), BindsTo s fd { pos := [u] } [(x, u)]) ∧ (∀ (H : Hp) (a : Addr) (ns : List Int), ns.length ≤ n → Only H → SqL K H a (List.map V.int ns) → sp [V.ref a] H (fun v _ => v = V.bl true) fun _ _ _ => False) ∧
        ∀ (base : Heap), K.In base → base.Ns mainGlobals mg → FnG l.prog w K mg base CX k fa fd [x] sp)
    (hCX : ∀ (H : Hp) (s : Shared) (e : Value) (s' : Shared), CX [] H s (fun _ _ _ => False) e s' → False) : PySem.W.WalkO q loose XP YP l.row.toRowW d [] fun f vs => call f vs :=
  Att.attach_call hn hdf fun w s₀ s₁ mg mb fa o pm cd doc a vs ns G Y ho hd hcd hmg hobj hints hlen hg => by
    obtain ⟨K, fd, sp, KX, nl, hb, hsp, hF⟩ := F w mg fa s₁.heap Y G.T.g hmg
    exact law_callG KX G.T.g G.T.b G.T.builtins G.T.nolimit hg hobj hints (Nat.le_trans hlen hn2) hr nl hF hb (fun H hO hS => hsp H a ns hlen hO hS) fun H e s' => hCX H s₁ e s'
end VS
/-! VS32: the module behind its top; the law. -/
namespace VS
open PySem PySem.Spec L2
open PyProof.Rows hiding St
/-- a class: its name, its __init__'s function, its methods' functions, whether its things are frozen when made, what it is under -/
structure ClsD where
  name : String
  ini : Option String
  meths : List (String × String)
  frz : Bool
  sup : List String
def bl20 : List Str := ["len", "range", "isinstance", "all", "any", "int", "str", "list", "tuple", "dict", "min", "max", "sum", "sorted", "enumerate", "zip", "reversed", "repr", "bool", "set", "ValueError"]
def dvD : D → He.Dv
  | .bl b => .bl b
  | .int i => .int i
  | .str l => .str (cps l)
  | _ => .non
def Row.dd (r : Row) : He.DefD := ⟨r.at_, r.nam, sn r.f, defArgs r.stm, defBody r.stm, defScope r.stm, r.fn.dfl.map dvD, []⟩
def pathOf (rows : List Row) (f : String) : Str × Option Str := match rows with
  | [] => (sn f, none)
  | r :: rs => if r.f = f then r.at_ else pathOf rs f
def faOf (rows : List Row) (ns : List (String × Int)) (ts : List (String × List Nat)) (cl : List ClsD) (fl : List String) : List He.Fa :=
  (rows.filter fun r => r.cm.isNone).map (fun r => He.Fa.glo (sn r.f)) ++ (bl20.map He.Fa.free ++ (ns.map (fun q => He.Fa.int (sn q.1) q.2) ++ (ts.map (fun q => He.Fa.str (sn q.1) (cps q.2)) ++
    (cl.map (fun k => He.Fa.glo (sn k.name)) ++ (cl.map (fun k => He.Fa.cls (sn k.name)) ++ (cl.map fun k => fl.map fun f => He.Fa.noat (sn k.name) (sn f)).flatten)))))
def fnP (fs : List (String × Fn)) (f : String) : Option Fn := match fs with
  | [] => none
  | p :: r => if p.1 = f then some p.2 else fnP r f
def conL (ns : List (String × Int)) (ts : List (String × List Nat)) (g : String) : Option D := match ns.lookup g with
  | some i => some (.int i)
  | none => (ts.lookup g).map D.str
def clsF (cl : List ClsD) (k : String) : Option ClsD := match cl with
  | [] => none
  | c :: r => if c.name = k then some c else clsF r k
/-- a refusal's class: its name, its field, the class whose __init__ is asked, its own __init__, that one's names -/
structure XcD where
  name : String
  fld : String
  base : String
  stm : Stmt
  ps : List Str
def XcD.dd (x : XcD) : He.DefD := ⟨(sn x.name, some "__init__"), "__init__", sn (x.name ++ ".__init__"), defArgs x.stm, defBody x.stm, defScope x.stm, [], []⟩
def xcT (xl : List XcD) : List (String × String) := xl.map fun x => (x.name, x.fld)
def faX (rows : List Row) (ns : List (String × Int)) (ts : List (String × List Nat)) (cl : List ClsD) (fl : List String) (xl : List XcD) (xa : List (String × List String)) : List He.Fa :=
  faOf rows ns ts cl fl ++ (xl.map (fun x => He.Fa.glo (sn x.name)) ++ (xl.map (fun x => He.Fa.glo (sn x.base)) ++ xa.map fun x => He.Fa.glo (sn x.1)))
def ddX (rows : List Row) (xl : List XcD) : List He.DefD := rows.map Row.dd ++ xl.map XcD.dd
def prog2 (fs : List (String × Fn)) (ns : List (String × Int)) (ts : List (String × List Nat)) (cl : List ClsD) (xc : List (String × String)) (xa : List (String × List String)) : Prog := { fn := fnP fs, con := conL ns ts, ini := fun k => (clsF cl k).map (·.ini), meth := fun k m => (clsF cl k).bind fun c => c.meths.lookup m, frz := fun k => ((clsF cl k).map (·.frz)).getD false, sub := fun a b => match clsF cl a with | some c => c.sup.contains b | none => ((xa.lookup a).map fun l => l.contains b).getD false, exc := fun k => (xc.lookup k).map fun f => [f] }
theorem lookup_mem0 {α : Type} : ∀ {l : List (String × α)} {g : String} {a : α}, l.lookup g = some a → (g, a) ∈ l
  | [], _, _, h => by simp at h
  | (b, u) :: r, g, a, h => by
    simp only [List.lookup_cons] at h
    split at h
    · rename_i e
      have e' : g = b := by simpa using e
      cases h; subst e'; simp
    · exact List.mem_cons_of_mem _ (lookup_mem0 h)
abbrev pr (rows : List Row) : List (String × Fn) := rows.map fun r => (r.f, r.fn)
/-- a refusal's text -/
def xsB (x : XcD) : Bool := C8.scC x.ps x.ps (defScope x.stm) && decide (vInitX (defBody x.stm) x.ps = some (sn x.base, sn x.fld)) && x.ps.all (fun y => visB (defScope x.stm) y && !dbB y) && glB (defScope x.stm) (sn x.base) && !dbB (sn x.base) && plainA' (defArgs x.stm) x.ps && decide x.ps.Nodup
/-- what is looked up of a refusal's class -/
def oexB (K : PySem.W.Frag) (C : Addr) : Bool := (match K.lookup C with
  | some ⟨.type "type", _, .cls cd, sl⟩ => (match cd.mro, sl.toList with
    | .ref C' :: bm, [_, _, _, _, some (.builtin n), _] => C' == C && n == "ValueError.__new__" && !cd.hasDel && cd.hasDict && PySem.HandSPX.refsVE bm
    | _, _ => false)
  | _ => false) && He.eqO (PySem.W.findIn K (.ref C) "__setattr__") (some (some (.builtin "object.__setattr__"))) && decide (PySem.W.subIn K (.ref C) (.type "BaseException") = some true) && decide (PySem.W.typeIn K (.ref C) = some (.type "type")) && PySem.W.keepIn K (.ref C)
theorem oexB_ok {K : PySem.W.Frag} {C : Addr} (h : oexB K C = true) : OexC K C := by
  simp only [oexB, Bool.and_eq_true, decide_eq_true_eq] at h
  obtain ⟨⟨⟨⟨h1, h2⟩, h3⟩, h4⟩, h5⟩ := h
  refine ⟨?_, He.eqO_ok h2, h3, h4, h5⟩
  split at h1
  · rename_i dd cd sl ho
    split at h1
    · rename_i C' bm k0 k1 k2 k3 n k5 hm hs
      simp only [Bool.and_eq_true, beq_iff_eq, Bool.not_eq_true'] at h1
      obtain ⟨⟨⟨⟨rfl, rfl⟩, hdel⟩, hdict⟩, ht⟩ := h1
      obtain ⟨nm, bs, mro, ns, qn, hd, sn, sub, ab, col, del⟩ := cd
      dsimp only at hm hdel hdict
      subst hm hdel hdict
      have hsl : sl = #[k0, k1, k2, k3, some (.builtin "ValueError.__new__"), k5] := by
        obtain ⟨l⟩ := sl
        simp only at hs
        rw [hs]
      subst hsl
      exact ⟨nm, qn, ns, bs, bm, sn, sub, ab, col, dd, k0, k1, k2, k3, k5, ho, ht⟩
    · cases h1
  · cases h1
def xcB (K : PySem.W.Frag) (x : XcD) : Bool := oexB K (He.ga K (sn x.name)) && He.eqO (PySem.W.findIn K (.ref (He.ga K (sn x.name))) "__init__") (some (some (.ref (He.fAd K (sn x.name, some "__init__"))))) &&
  decide (PySem.W.typeIn K (.ref (He.fAd K (sn x.name, some "__init__"))) = some (.type "function")) && He.eqO (PySem.W.findIn K (.ref (He.ga K (sn x.name))) (sn x.fld)) (some none) &&
  PySem.W.readsIn K (He.ga K (sn x.base)) (.type "type") && He.eqO (PySem.W.specialIn K (.ref (He.ga K (sn x.base))) "__getattribute__") (some (some (.builtin "type.__getattribute__"))) &&
  (match PySem.W.findCls K (.ref (He.ga K (sn x.base))) (.type "type") "__init__" with
    | some (.val (.builtin n)) => decide (n = "ValueError.__init__")
    | _ => false)
/-- what may be called where something is handled -/
def hotF (rows : List Row) (cs fl gl xa : List String) : List String := (rows.filter fun r => r.hot cs fl gl xa).map (·.f)
theorem hotF_of {rows : List Row} {cs fl gl xa : List String} : ∀ h ∈ hotF rows cs fl gl xa, h ∈ (rows.filter fun r => r.cm.isNone).map (·.f) ∧ ∃ r ∈ rows, r.f = h ∧ r.hot cs fl gl xa = true := fun h hh => by
  obtain ⟨r, hr, rfl⟩ := List.mem_map.mp hh
  obtain ⟨h1, h2⟩ := List.mem_filter.mp hr
  refine ⟨List.mem_map_of_mem (List.mem_filter.mpr ⟨h1, ?_⟩), r, h1, rfl, h2⟩
  simp only [Row.hot, Bool.and_eq_true] at h2
  exact h2.1
/-- the rows' own check -/
def rowsOk (rows : List Row) (ns : List (String × Int)) (ts : List (String × List Nat)) (cl : List ClsD) (fl ms : List String) (sm : List (String × String)) (xl : List XcD) (xa : List (String × List String)) : Bool :=
  decide (rows.map (·.f)).Nodup && (rows.all fun r => r.ok ((rows.filter fun r => r.cm.isNone).map (·.f)) (cl.map (·.name)) fl (ns.map (·.1) ++ ts.map (·.1)) ms sm (xl.map (·.name)) (xa.map (·.1)) (hotF rows (cl.map (·.name)) fl (ns.map (·.1) ++ ts.map (·.1)) (xa.map (·.1)))) && decide (xl.map (·.name)).Nodup && xl.all xsB && xl.all fun x => (xa.map (·.1)).contains x.name
/-! ### what is looked up in the written part -/
def metB (K : PySem.W.Frag) (nm : List String) (k m : String) (f : String) (a : Addr) : Bool := nm.contains f && He.eqO (PySem.W.findIn K (.ref (He.ga K (sn k))) (sn m)) (some (some (.ref a))) && PySem.W.isFn K (.ref a) && PySem.W.keepIn K (.ref a)
def scmB (K : PySem.W.Frag) (nm : List String) (k m : String) (f : String) (a : Addr) : Bool := nm.contains f && PySem.W.readsIn K (He.ga K (sn k)) (.type "type") && He.eqO (PySem.W.specialIn K (.ref (He.ga K (sn k))) "__getattribute__") (some (some (.builtin "type.__getattribute__"))) &&
  (match PySem.W.findCls K (.ref (He.ga K (sn k))) (.type "type") (sn m) with
    | some (.val (.ref b)) => decide (b = a)
    | _ => false)
def makB (K : PySem.W.Frag) (nm : List String) (k : String) (i : Option String) (ad : String → Addr) : Bool := PySem.W.keepIn K (.ref (He.ga K (sn k))) && (match i with
  | some f => nm.contains f && PySem.W.makesIn K (He.ga K (sn k)) && He.eqO (PySem.W.findIn K (.ref (He.ga K (sn k))) "__init__") (some (some (.ref (ad f)))) && PySem.W.isFn K (.ref (ad f))
  | none => PySem.W.makesIn K (He.ga K (sn k)) && He.eqO (PySem.W.findIn K (.ref (He.ga K (sn k))) "__init__") (some (some (.builtin "object.__init__"))))
def excB (K : PySem.W.Frag) (C : Addr) : Bool := decide (PySem.W.findIn K (.ref C) "__getattribute__" = some (some (.builtin "BaseException.__getattribute__"))) && decide (PySem.W.findIn K (.ref C) "__getattr__" = some none) && decide (PySem.W.subIn K (.ref C) (.type "BaseException") = some true) && PySem.W.hasDictIn K C &&
  decide (PySem.W.findIn K (.ref C) "__class__" = some (some (.builtin "object.__class__"))) && decide (PySem.W.mroIn K C (.type "object") = some true)
def isiB (K : PySem.W.Frag) (cs xs fl : List String) (sub : String → String → Bool) : Bool :=
  He.eqO (PySem.W.specialIn K (.builtin "object.__class__") "__get__") (some (some (.builtin "getset_descriptor.__get__"))) && decide (PySem.W.takesIn K (.builtin "object.__class__") = some true) &&
  (xs.all fun k => decide (PySem.W.kitOne K (.ref (He.ga K (sn k))) (.type "ValueError") = some true) && excB K (He.ga K (sn k)) && xfB K (He.ga K (sn k)) && ((cs ++ xs).all fun e => decide (PySem.W.kitOne K (.ref (He.ga K (sn k))) (.ref (He.ga K (sn e))) = some (sub k e))) && (xs.all fun e => decide (PySem.W.exmOne K (.ref (He.ga K (sn k))) (.ref (He.ga K (sn e))) = some (sub k e))) &&
    fl.all fun f => decide (PySem.W.findIn K (.ref (He.ga K (sn k))) (sn f) = some none)) && (btNs.all fun a => (cs ++ xs).all fun k => decide (PySem.W.kitOne K (.type a) (.ref (He.ga K (sn k))) = some false)) &&
  cs.all fun k => He.eqO (PySem.W.findIn K (.ref (He.ga K (sn k))) "__class__") (some (some (.builtin "object.__class__"))) && decide (PySem.W.mroIn K (He.ga K (sn k)) (.type "object") = some true) &&
    (tyNs.all fun b => decide (PySem.W.kitOne K (.ref (He.ga K (sn k))) (.type b) = some false)) && ((cs ++ xs).all fun e => decide (PySem.W.kitOne K (.ref (He.ga K (sn k))) (.ref (He.ga K (sn e))) = some (sub k e)))
def adO (rows : List Row) (K : PySem.W.Frag) (f : String) : Addr := He.fAd K (pathOf rows f)
def exB (rows : List Row) (cl : List ClsD) (fl ms : List String) (sm : List (String × String)) (xl : List XcD) (xa : List (String × List String)) (K : PySem.W.Frag) : Bool :=
  noList K && xl.all (xcB K) && ((cl.isEmpty && xa.isEmpty) || (isiB K (cl.map (·.name)) (xa.map (·.1)) fl (prog2 [] [] [] cl [] xa).sub &&
    (cl.all fun k => ms.all fun m => match (prog2 [] [] [] cl [] xa).meth k.name m with | some f => metB K (rows.map (·.f)) k.name m f (adO rows K f) | none => true) &&
    (sm.all fun q => match (prog2 [] [] [] cl [] xa).meth q.1 q.2 with | some f => scmB K (rows.map (·.f)) q.1 q.2 f (adO rows K f) | none => true) &&
    cl.all fun k => match (prog2 [] [] [] cl [] xa).ini k.name with | some i => makB K (rows.map (·.f)) k.name i (adO rows K) | none => true))
theorem fnP_get : ∀ {rows : List Row}, (rows.map (·.f)).Nodup → ∀ r ∈ rows, fnP (pr rows) r.f = some r.fn
  | [], _, _, h => by cases h
  | q :: rs, hn, r, h => by
    simp only [List.map_cons, List.nodup_cons] at hn
    simp only [List.mem_cons] at h
    rcases h with rfl | h
    · simp [fnP, pr]
    · have ne : q.f ≠ r.f := fun e => hn.1 (by rw [e]; exact List.mem_map_of_mem h)
      simp only [pr, List.map_cons, fnP, if_neg ne]
      exact fnP_get hn.2 r h
theorem path_get : ∀ {rows : List Row}, (rows.map (·.f)).Nodup → ∀ r ∈ rows, pathOf rows r.f = r.at_
  | [], _, _, h => by cases h
  | q :: rs, hn, r, h => by
    simp only [List.map_cons, List.nodup_cons] at hn
    simp only [List.mem_cons] at h
    rcases h with rfl | h
    · simp [pathOf]
    · have ne : q.f ≠ r.f := fun e => hn.1 (by rw [e]; exact List.mem_map_of_mem h)
      simp only [pathOf, if_neg ne]
      exact path_get hn.2 r h
theorem clsF_mem : ∀ {cl : List ClsD} {k : String} {c : ClsD}, clsF cl k = some c → c ∈ cl ∧ c.name = k
  | [], _, _, h => by cases h
  | q :: r, k, c, h => by
    simp only [clsF] at h
    split at h
    · rename_i e; cases h; exact ⟨by simp, e⟩
    · obtain ⟨h1, h2⟩ := clsF_mem h
      exact ⟨List.mem_cons_of_mem _ h1, h2⟩
section
variable {xl : List XcD} {xa : List (String × List String)} {rows : List Row} {ns : List (String × Int)} {ts : List (String × List Nat)} {cl : List ClsD} {fl ms : List String} {sm : List (String × String)} {K : PySem.W.Frag} {h : Heap} {mg : Str → Option Value}
theorem wk_of (X : K.In h) (G : h.Ns mainGlobals mg) (nd : (rows.map (·.f)).Nodup) (c : He.SaysD (faX rows ns ts cl fl xl xa) (ddX rows xl) K) (xn : (xl.map (·.name)).Nodup) (xs : xl.all xsB = true) (xin : ∀ x ∈ xl, x.name ∈ xa.map (·.1)) (ex : exB rows cl fl ms sm xl xa K = true) :
    Wk ⟨K, fun x => He.ga K (sn x), cl.map (·.name), xa.map (·.1)⟩ (prog2 (pr rows) ns ts cl (xcT xl) xa) (adO rows K) (rows.map (·.f)) ((rows.filter fun r => r.cm.isNone).map (·.f)) (cl.map (·.name)) fl (ns.map (·.1) ++ ts.map (·.1)) ms sm (xl.map (·.name)) (xa.map (·.1)) mg := by
  have fact : ∀ f ∈ faOf rows ns ts cl fl, f.ok K = true := fun f hf => c.facts (List.mem_append_left _ hf)
  simp only [exB, Bool.and_eq_true, Bool.or_eq_true, List.isEmpty_iff] at ex
  obtain ⟨⟨exl, exx⟩, ex⟩ := ex
  have clsM : ∀ k ∈ cl.map (·.name), ∃ q ∈ cl, q.name = k := fun k hk => List.mem_map.mp hk
  have exi : (cl = [] ∧ xa = []) ∨ isiB K (cl.map (·.name)) (xa.map (·.1)) fl (prog2 [] [] [] cl [] xa).sub = true := ex.imp id fun e => e.1.1.1
  have exc : ∀ k, k ∈ cl.map (·.name) → isiB K (cl.map (·.name)) (xa.map (·.1)) fl (prog2 [] [] [] cl [] xa).sub = true ∧
      (∀ k ∈ cl, ∀ m ∈ ms, (match (prog2 [] [] [] cl [] xa).meth k.name m with | some f => metB K (rows.map (·.f)) k.name m f (adO rows K f) | none => true) = true) ∧
      (∀ k ∈ cl, (match (prog2 [] [] [] cl [] xa).ini k.name with | some i => makB K (rows.map (·.f)) k.name i (adO rows K) | none => true) = true) := fun k hk => by
    rcases ex with e | e
    · rw [e.1] at hk; cases hk
    · obtain ⟨⟨⟨e1, e2⟩, e3⟩, e4⟩ := e
      exact ⟨e1, fun k hk m hm => List.all_eq_true.mp (List.all_eq_true.mp e2 k hk) m hm, fun k hk => List.all_eq_true.mp e4 k hk⟩
  refine {
    gl := fun y hy => ?_
    con := fun g d hd => ?_
    blt := fun x hx => He.free_ok X G (fact (.free x) (by unfold faOf; simp only [List.mem_append, List.mem_map]; exact .inr (.inl ⟨x, hx, rfl⟩)))
    cls := fun k hk => ?_
    na := fun k hk f hf => ?_
    cse := fun e he => he
    clg := fun e he => ?_
    isi := ?_
    fsn := fun f hf => ?_
    met := fun k hk m hm f hf => ?_
    scm := fun q hq f hf => ?_
    mak := fun k hk => ?_
    exc := fun k hk => ?_
    xae := fun e he => ?_
    nax := fun k hk f hf => ?_ }
  · show (conL ns ts y).isSome = true
    unfold conL
    cases e : ns.lookup y with
    | some i => rfl
    | none =>
      cases e2 : ts.lookup y with
      | some t => rfl
      | none =>
        exfalso
        simp only [List.mem_append, List.mem_map] at hy
        rcases hy with ⟨q, hq, rfl⟩ | ⟨q, hq, rfl⟩
        · rw [List.lookup_eq_none_iff] at e
          exact absurd (e q hq) (by simp)
        · rw [List.lookup_eq_none_iff] at e2
          exact absurd (e2 q hq) (by simp)
  · have hd' : conL ns ts g = some d := hd
    unfold conL at hd'
    cases e : ns.lookup g with
    | some i =>
      rw [e] at hd'
      cases hd'
      obtain ⟨t, ht⟩ := He.int_ok X G (fact (.int (sn g) i) (by
        unfold faOf
        have := lookup_mem0 e
        simp only [List.mem_append, List.mem_map]
        exact .inr (.inr (.inl ⟨(g, i), this, rfl⟩))))
      exact ⟨_, .int i, ht, ⟨t, rfl⟩, fun S => rpS_int i⟩
    | none =>
      rw [e] at hd'
      cases e2 : ts.lookup g with
      | none => rw [e2] at hd'; cases hd'
      | some l =>
        rw [e2] at hd'
        cases hd'
        obtain ⟨t, ht⟩ := He.str_ok X G (fact (.str (sn g) (cps l)) (by
          unfold faOf
          have := lookup_mem0 e2
          simp only [List.mem_append, List.mem_map]
          exact .inr (.inr (.inr (.inl ⟨(g, l), this, rfl⟩)))))
        exact ⟨_, .str (cps l), ht, ⟨t, rfl⟩, fun S => rpS_str l⟩
  · obtain ⟨q, hq, rfl⟩ := clsM k hk
    exact He.cls_ok (fact (.cls (sn q.name)) (by unfold faOf; simp only [List.mem_append, List.mem_map]; exact .inr (.inr (.inr (.inr (.inr (.inl ⟨q, hq, rfl⟩)))))))
  · obtain ⟨q, hq, rfl⟩ := clsM k hk
    exact He.noat_ok (fact (.noat (sn q.name) (sn f)) (by
      unfold faOf; simp only [List.mem_append, List.mem_map]
      refine .inr (.inr (.inr (.inr (.inr (.inr ?_)))))
      rw [List.mem_flatten]
      exact ⟨_, List.mem_map.mpr ⟨q, hq, rfl⟩, List.mem_map.mpr ⟨f, hf, rfl⟩⟩))
  · obtain ⟨q, hq, rfl⟩ := clsM e he
    exact He.glo_ok X G (fact (.glo (sn q.name)) (by unfold faOf; simp only [List.mem_append, List.mem_map]; exact .inr (.inr (.inr (.inr (.inl ⟨q, hq, rfl⟩))))))
  · rcases exi with e | e
    · have n1 : ∀ k, ¬ k ∈ cl.map (·.name) := fun k h => by rw [e.1] at h; cases h
      have n2 : ∀ k, ¬ k ∈ xa.map (·.1) := fun k h => by rw [e.2] at h; cases h
      have n3 : ∀ k, ¬ k ∈ Wd.ts ⟨K, fun x => He.ga K (sn x), cl.map (·.name), xa.map (·.1)⟩ := fun k h => by
        rcases List.mem_append.mp h with h | h
        · exact n1 k h
        · exact n2 k h
      exact ⟨fun k hk => absurd hk (n1 k), fun k hk => absurd hk (n1 k), fun k hk => absurd hk (n1 k), fun k hk => absurd hk (n1 k), fun k hk => absurd hk (n1 k), fun k hk => absurd hk (n1 k), fun _ _ e he => absurd he (n3 e),
        fun k hk => absurd hk (n2 k), fun k hk => absurd hk (n2 k), fun k hk => absurd hk (n2 k), fun k hk => absurd hk (n2 k), fun k hk => absurd hk (n2 k)⟩
    · simp only [isiB, Bool.and_eq_true, decide_eq_true_eq] at e
      obtain ⟨⟨⟨⟨z1, z2⟩, z3⟩, z4⟩, z5⟩ := e
      have z1' := He.eqO_ok z1
      have hc5 := fun k hk => List.all_eq_true.mp z5 k hk
      have hc3 := fun k hk => List.all_eq_true.mp z3 k hk
      simp only [Bool.and_eq_true, decide_eq_true_eq, excB] at hc5 hc3
      have sb : (prog2 (pr rows) ns ts cl (xcT xl) xa).sub = (prog2 [] [] [] cl [] xa).sub := rfl
      rw [sb]
      refine ⟨fun k hk => He.eqO_ok (hc5 k hk).1.1.1, fun k hk => z1', fun k hk => z2, fun k hk => (hc5 k hk).1.1.2, fun k hk b hb => ?_, fun k hk e he => ?_, fun a ha e he => ?_, fun k hk => ?_, fun k hk e he => ?_, fun k hk e he => ?_, fun k hk => xfB_ok (hc3 k hk).1.1.1.2, fun k hk => (hc3 k hk).1.1.1.1.1⟩
      · exact of_decide_eq_true (List.all_eq_true.mp (hc5 k hk).1.2 b hb)
      · exact of_decide_eq_true (List.all_eq_true.mp (hc5 k hk).2 e he)
      · exact of_decide_eq_true (List.all_eq_true.mp (List.all_eq_true.mp z4 a ha) e he)
      · obtain ⟨⟨⟨⟨⟨q1, q2⟩, q3⟩, q4⟩, q5⟩, q6⟩ := (hc3 k hk).1.1.1.1.2
        exact ⟨q1, q2, q3, q4, q5, z1', z2, q6⟩
      · exact of_decide_eq_true (List.all_eq_true.mp (hc3 k hk).1.1.2 e he)
      · exact of_decide_eq_true (List.all_eq_true.mp (hc3 k hk).1.2 e he)
  · obtain ⟨r, hr, rfl⟩ := List.mem_map.mp hf
    have hr' := List.mem_filter.mp hr
    refine ⟨List.mem_map_of_mem hr'.1, ?_⟩
    have hg := He.glo_ok X G (fact (.glo (sn r.f)) (by unfold faOf; simp only [List.mem_append, List.mem_map]; exact .inl ⟨r, hr, rfl⟩))
    have e : adO rows K r.f = He.ga K (sn r.f) := by
      unfold adO
      rw [path_get nd r hr'.1]
      unfold Row.at_
      cases hc : r.cm with
      | none => rfl
      | some q => rw [hc] at hr'; simp at hr'
    rw [e]; exact hg
  · obtain ⟨q, hq, rfl⟩ := clsM k hk
    have z := (exc q.name hk).2.1 q hq m hm
    have hf' : (prog2 [] [] [] cl [] xa).meth q.name m = some f := hf
    rw [hf'] at z
    simp only [metB, Bool.and_eq_true] at z
    obtain ⟨⟨⟨z1, z2⟩, z3⟩, z4⟩ := z
    exact ⟨by simpa using z1, ⟨He.eqO_ok z2, z3, z4⟩⟩
  · have hf' : (prog2 [] [] [] cl [] xa).meth q.1 q.2 = some f := hf
    have hc : q.1 ∈ cl.map (·.name) := by
      have hf2 : ((clsF cl q.1).bind fun c => c.meths.lookup q.2) = some f := hf
      cases e : clsF cl q.1 with
      | none => rw [e] at hf2; cases hf2
      | some k =>
        obtain ⟨h1, h2⟩ := clsF_mem e
        exact List.mem_map.mpr ⟨k, h1, h2⟩
    have z : (match (prog2 [] [] [] cl [] xa).meth q.1 q.2 with | some f => scmB K (rows.map (·.f)) q.1 q.2 f (adO rows K f) | none => true) = true := by
      rcases ex with e | e
      · rw [e.1] at hc; cases hc
      · exact List.all_eq_true.mp e.1.2 q hq
    rw [hf'] at z
    simp only [scmB, Bool.and_eq_true] at z
    obtain ⟨⟨⟨z1, z2⟩, z3⟩, z4⟩ := z
    refine ⟨by simpa using z1, He.ga K (sn q.1), .type "type", ?_, ⟨z2, He.eqO_ok z3⟩, ?_⟩
    · obtain ⟨k, hk, e⟩ := clsM _ hc
      have := He.glo_ok X G (fact (.glo (sn k.name)) (by unfold faOf; simp only [List.mem_append, List.mem_map]; exact .inr (.inr (.inr (.inr (.inl ⟨k, hk, rfl⟩))))))
      rw [e] at this; exact this
    · show PySem.W.findCls K (.ref (He.ga K (sn q.1))) (.type "type") (sn q.2) = _
      revert z4
      cases PySem.W.findCls K (.ref (He.ga K (sn q.1))) (.type "type") (sn q.2) with
      | none => intro z; cases z
      | some cf =>
        cases cf with
        | val v =>
          cases v with
          | ref b => intro z; have z' : b = adO rows K f := of_decide_eq_true z; rw [z']
          | _ => intro z; cases z
        | get _ _ _ _ => intro z; cases z
  · obtain ⟨q, hq, rfl⟩ := clsM k hk
    have z := (exc q.name hk).2.2 q hq
    cases hi : (prog2 [] [] [] cl [] xa).ini q.name with
    | none =>
      exfalso
      have hi' : (clsF cl q.name).map (·.ini) = none := hi
      have some_ : ∀ {cl : List ClsD}, q ∈ cl → ∃ c, clsF cl q.name = some c := by
        intro cl
        induction cl with
        | nil => intro h; cases h
        | cons c r ih =>
          intro h
          simp only [clsF]
          by_cases e : c.name = q.name
          · exact ⟨c, if_pos e⟩
          · rw [if_neg e]
            simp only [List.mem_cons] at h
            rcases h with rfl | h
            · exact absurd rfl e
            · exact ih h
      obtain ⟨c, e⟩ := some_ hq
      rw [e] at hi'; cases hi'
    | some i =>
      rw [hi] at z
      simp only [makB, Bool.and_eq_true] at z
      obtain ⟨z1, z2⟩ := z
      refine ⟨z1, fun f hf => ?_, fun hf => ?_⟩
      · have hf' : (prog2 [] [] [] cl [] xa).ini q.name = some (some f) := hf
        rw [hi] at hf'
        cases hf'
        simp only [Bool.and_eq_true] at z2
        obtain ⟨⟨⟨q1, q2⟩, q3⟩, q4⟩ := z2
        exact ⟨by simpa using q1, ⟨q2, He.eqO_ok q3, q4, z1⟩⟩
      · have hf' : (prog2 [] [] [] cl [] xa).ini q.name = some none := hf
        rw [hi] at hf'
        cases hf'
        simp only [Bool.and_eq_true] at z2
        exact ⟨z2.1, He.eqO_ok z2.2⟩
  · obtain ⟨q, hq, rfl⟩ := List.mem_map.mp hk
    have b1 := List.all_eq_true.mp exx q hq
    have b2 := List.all_eq_true.mp xs q hq
    simp only [xcB, Bool.and_eq_true, decide_eq_true_eq] at b1
    simp only [xsB, Bool.and_eq_true, decide_eq_true_eq, Bool.not_eq_true'] at b2
    obtain ⟨⟨⟨⟨⟨⟨c1, c2⟩, c3⟩, c4⟩, c5⟩, c6⟩, c7⟩ := b1
    obtain ⟨⟨⟨⟨⟨⟨d1, d2⟩, d3⟩, d4⟩, d5⟩, d6⟩, d7⟩ := b2
    obtain ⟨fd, hfd⟩ := c.defs (d := q.dd) (List.mem_append_right _ (List.mem_map_of_mem hq))
    have hB : mg (sn q.base) = some (.ref (He.ga K (sn q.base))) := He.glo_ok X G (c.facts (List.mem_append_right _ (List.mem_append_right _ (List.mem_append_left _ (List.mem_map_of_mem hq)))))
    have hC : mg (sn q.name) = some (.ref (He.ga K (sn q.name))) := He.glo_ok X G (c.facts (List.mem_append_right _ (List.mem_append_left _ (List.mem_map_of_mem hq))))
    have look : ∀ {l : List XcD}, (l.map (·.name)).Nodup → q ∈ l → (xcT l).lookup q.name = some q.fld := by
      intro l
      induction l with
      | nil => intro _ h; cases h
      | cons a r ih =>
        intro hn h
        simp only [List.map_cons, List.nodup_cons] at hn
        simp only [List.mem_cons] at h
        rcases h with rfl | h
        · simp [xcT]
        · have ne : (q.name == a.name) = false := by
            rw [beq_eq_false_iff_ne]
            intro z
            exact hn.1 (by rw [← z]; exact List.mem_map_of_mem h)
          have := ih hn.2 h
          unfold xcT at this ⊢
          rw [List.map_cons, List.lookup_cons, ne]
          exact this
    refine ⟨xin q hq, q.fld, _, _, fd, q.ps, _, _, _, _, _, sn q.base, .type "type", ?_, hC, oexB_ok c1, He.eqO_ok c2, c3, hfd, C8.fnScope_by d1, d2, d3, He.eqO_ok c4, hB, d4, d5, ⟨c5, He.eqO_ok c6⟩, ?_, ?_⟩
    · show ((xcT xl).lookup q.name).map (fun f => [f]) = some [q.fld]
      rw [look xn hq]; rfl
    · revert c7
      cases PySem.W.findCls K (.ref (He.ga K (sn q.base))) (.type "type") "__init__" with
      | none => intro z; cases z
      | some cf =>
        cases cf with
        | val v =>
          cases v with
          | builtin b => intro z; have z' : b = "ValueError.__init__" := of_decide_eq_true z; rw [z']
          | _ => intro z; cases z
        | get _ _ _ _ => intro z; cases z
    · have hp := d6
      refine FunD.bindsN hfd fun kV doc pm an cdv ct us hl => ?_
      clear hfd
      have hps0 : q.dd.params = defArgs q.stm := rfl
      rw [hps0]
      revert hp
      generalize defArgs q.stm = ar
      obtain ⟨po, a, va, ko, kd, kw, df⟩ := ar
      intro hp
      simp only [plainA', Bool.and_eq_true, List.isEmpty_iff, Option.isNone_iff_eq_none, decide_eq_true_eq] at hp
      obtain ⟨⟨⟨⟨⟨rfl, hps⟩, rfl⟩, rfl⟩, rfl⟩, rfl⟩ := hp
      have := bind_plain0 (x := q.dd.name) (qual := q.dd.qual) (ar := a) (df := df) (body := q.dd.body) (scope := q.dd.scope) (kV := kV) (doc := doc) (pm := pm) (an := an) (cdv := cdv) (ct := ct) (us := us) (by rw [hps]; exact d7) (by rw [← hps, List.length_map] at hl; exact hl)
      rw [hps] at this
      exact this
  · obtain ⟨q, hq, rfl⟩ := List.mem_map.mp he
    exact ⟨List.mem_map_of_mem hq, He.glo_ok X G (c.facts (List.mem_append_right _ (List.mem_append_right _ (List.mem_append_right _ (List.mem_map_of_mem hq)))))⟩
  · have hk' : k ∈ xa.map (·.1) := hk
    rcases exi with e | e
    · rw [e.2] at hk'; cases hk'
    · simp only [isiB, Bool.and_eq_true, decide_eq_true_eq] at e
      have := List.all_eq_true.mp e.1.1.2 k hk'
      simp only [Bool.and_eq_true, decide_eq_true_eq, List.all_eq_true] at this
      exact this.2 f hf
theorem fnOk_calm {P : Program} {w : World} {K : PySem.W.Frag} {mg : Str → Option Value} {base : Heap} {k : Nat} {f : Addr} {fd : FuncData} {ps : List Str} {sp : Sp} (F : FnG P w K mg base (L2.CX P w) k f fd ps sp) :
    FnG P w K mg base C8.CX0 k f fd ps (fun vs H Q _ => sp vs H Q fun _ _ _ => False) := ⟨fun vs H Q _ h => F.len _ _ _ _ h, fun A outer s H args us vs Q _ hr e0 hb rv h => codeAny_mono (F.run A outer s H args us vs Q (fun _ _ _ => False) hr e0 hb rv h) fun r s' hq => by
  cases r with
  | error e =>
    obtain ⟨a, B, H', cls, d, rfl, fl, hok, ub, na, os, ag, hE⟩ := (show L2.CX P w outer H s (fun _ _ _ => False) e s' from hq)
    exact hE.elim
  | ok fl => cases fl <;> exact hq⟩
theorem dvD_v (d : D) : (dvD d).v K = dV d := by cases d <;> rfl
/-- THE END: the law of a module -/
theorem top_snd {P : Program} {w : World} {f : Addr} {k : Nat} {law : Row} {x : Str} (ok : rowsOk rows ns ts cl fl ms sm xl xa = true) (hl : law ∈ rows) (hx : law.ps = [x]) (hd : law.fn.dfl = []) (hcm : law.cm = none) (hnm : ∀ k ∈ cl, k.name ≠ law.f) (X : K.In h) (G : h.Ns mainGlobals mg)
    (c : He.SaysD (faX rows ns ts cl fl xl xa) (ddX rows xl) K) (ex : exB rows cl fl ms sm xl xa K = true) (hfa : mg (sn law.f) = some (.ref f))
    (hrun : ∀ zs : List Int, zs.length ≤ 63 → run (prog2 (pr rows) ns ts cl (xcT xl) xa) k false law.f [.node false .slst (zs.map D.int)] [] = .ok (.bl true) []) :
    noList K = true ∧ ∃ (fd : FuncData) (sp : Sp), (∀ (s : Shared) (v : Value), BindsTo s fd ⟨[v], []⟩ [(x, v)]) ∧ (∀ (H : Hp) (a : Addr) (zs : List Int), zs.length ≤ 63 → Only H → SqL K H a (zs.map V.int) → sp [.ref a] H (fun v _ => v = .bl true) fun _ _ _ => False) ∧
      ∀ base : Heap, K.In base → base.Ns mainGlobals mg → FnG P w K mg base C8.CX0 (3 * k) f fd [x] sp := by
  simp only [rowsOk, Bool.and_eq_true, decide_eq_true_eq] at ok
  obtain ⟨⟨⟨⟨o1, o2⟩, o4⟩, o5⟩, o6⟩ := ok
  have o3 := fun r hr => List.all_eq_true.mp o2 r hr
  have wk := wk_of (rows := rows) (ns := ns) (ts := ts) (cl := cl) (fl := fl) (ms := ms) (sm := sm) X G o1 c o4 o5 (fun x hx => by simpa using List.all_eq_true.mp o6 x hx) ex
  have defs : ∀ r ∈ rows, ∃ fd, FunD K r.nam (sn r.f) (defArgs r.stm) (defBody r.stm) (defScope r.stm) (r.fn.dfl.map dV) [] (adO rows K r.f) fd := fun r hr => by
    obtain ⟨fd, hfd⟩ := c.defs (d := r.dd) (List.mem_append_left _ (List.mem_map_of_mem hr))
    have e1 : r.dd.dvs K = r.fn.dfl.map dV := by
      show (r.fn.dfl.map dvD).map (He.Dv.v K) = _
      rw [List.map_map]
      exact List.map_congr_left fun d _ => dvD_v d
    have e2 : He.fAd K r.dd.at_ = adO rows K r.f := by
      unfold adO; rw [path_get o1 r hr]; rfl
    rw [e1, e2] at hfd
    exact ⟨fd, hfd⟩
  have hfl : law.f ∈ (rows.filter fun r => r.cm.isNone).map (·.f) := List.mem_map_of_mem (List.mem_filter.mpr ⟨hl, by rw [hcm]; rfl⟩)
  have e := hfa.symm.trans (wk.fsn _ hfl).2
  cases e
  obtain ⟨fd, D⟩ := defs law hl
  have okl := o3 law hl
  have nl : noList K = true := by
    simp only [exB, Bool.and_eq_true] at ex
    exact ex.1.1
  have pl : plainA' (defArgs law.stm) law.ps = true ∧ law.ps.Nodup := by
    simp only [Row.ok, Bool.and_eq_true, decide_eq_true_eq] at okl
    exact ⟨okl.1.2, okl.2⟩
  have b : ∀ (s : Shared) (us : List Value), us.length = [x].length → BindsTo s fd ⟨us, []⟩ ([x].zip us) := by
    rw [hd] at D
    refine FunD.bindsA (ps := [x]) D fun kV doc pm an cdv ct us hl => ?_
    have hp := pl.1
    rw [hx] at hp
    revert hp
    generalize defArgs law.stm = ar
    obtain ⟨po, a, va, ko, kd, kw, df⟩ := ar
    intro hp
    simp only [plainA', Bool.and_eq_true, List.isEmpty_iff, Option.isNone_iff_eq_none, decide_eq_true_eq] at hp
    obtain ⟨⟨⟨⟨⟨rfl, hps⟩, rfl⟩, rfl⟩, rfl⟩, rfl⟩ := hp
    have := bind_plain0 (x := law.nam) (qual := sn law.f) (ar := a) (df := df) (body := defBody law.stm) (scope := defScope law.stm) (kV := kV) (doc := doc) (pm := pm) (an := an) (cdv := cdv) (ct := ct) (us := us) (by rw [hps]; simp) (by rw [← hps, List.length_map] at hl; exact hl)
    rw [hps] at this
    exact this
  refine ⟨nl, fd, fun vs H Q _ => spF ⟨K, fun x => He.ga K (sn x), cl.map (·.name), xa.map (·.1)⟩ 1 (run (prog2 (pr rows) ns ts cl (xcT xl) xa) k false law.f) vs H Q (fun _ _ _ => False), fun s v => b s [v] rfl, fun H a zs hz hO hS => script_snd (W := ⟨K, fun x => He.ga K (sn x), cl.map (·.name), xa.map (·.1)⟩) nl hO hS (hrun zs hz), fun base hb hg => ?_⟩
  have F1 := all_fns (W := ⟨K, fun x => He.ga K (sn x), cl.map (·.name), xa.map (·.1)⟩) (P := prog2 (pr rows) ns ts cl (xcT xl) xa) (prog := P) (wd := w) (mg := mg) (rows := rows) (ad := adO rows K) (base := base) wk hotF_of (fun r hr => ⟨o3 r hr, fnP_get o1 r hr, defs r hr⟩) k law hl fd D
  rw [hx] at F1
  exact fnOk_calm F1
end
/-! ### what is looked at behind the top: what the module's names reach, and the statics -/
/-- what can be reached, place by place; v: what was met, as a mask -/
def reach (g : Addr → Option Obj) : Nat → List Addr → Nat → List Addr → List Addr
  | 0, _, _, acc => acc
  | _ + 1, [], _, acc => acc
  | f + 1, a :: r, v, acc => match Nat.testBit v a with
    | true => reach g f r v acc
    | false => HandSHeadRun.frNat (Nat.lor v (Nat.shiftLeft 1 a)) fun v' => match g a with
      | some o => reach g f (He.refsD o ++ r) v' (a :: acc)
      | none => reach g f r v' acc
def kV (n : Nat) (g : Addr → Option Obj) : PySem.W.Frag := He.frG g (cStatics :: reach g 20000 [mainGlobals] 0 [])
abbrev AlV : Type := He.AlD × Bool
def obsV (n : Nat) (fa : List He.Fa) (fn : List He.DefD) (ex : PySem.W.Frag → Bool) (g : Addr → Option Obj) : AlV := (He.obsD fa fn (kV n g), ex (kV n g))
def hookV (n : Nat) (fa : List He.Fa) (fn : List He.DefD) (ex : PySem.W.Frag → Bool) : PySem.W.Hook where
  α := AlV
  obs := fun s => obsV n fa fn ex s.heap.get?
  val := fun _ => (He.valD fn, true)
  says := fun _ h => ∃ K : PySem.W.Frag, K.In h ∧ He.SaysD fa fn K ∧ ex K = true
  of := fun _ _ e => ⟨_, He.frG_in, congrArg (fun z : AlV => z.1) e, congrArg (fun z : AlV => z.2) e⟩
  keeps := fun _ _ _ ⟨K, hK, c⟩ k => ⟨K, PySem.W.Frag.In.keeps hK k, c⟩
theorem obsV_eq {n : Nat} {fa : List He.Fa} {fn : List He.DefD} {ex : PySem.W.Frag → Bool} {g : Addr → Option Obj} {s : Shared} (h : ∀ a, g a = s.heap.get? a) : obsV n fa fn ex g = (hookV n fa fn ex).obs s := by
  have e : g = s.heap.get? := funext h
  rw [e] <;> rfl
end VS
/-! VE1: running the core language by simp: outer things first, equation by equation. -/
namespace VS
section
variable {α β : Type}
/-- what comes later is not looked into -/
abbrev Lz {γ : Type} (_ : γ) : Type := PUnit
def Rs.bnd (x : Rs α) (f : α → Sg → Rs β) (_ : Lz f) : Rs β := x.bind f
def Rs.obn (x : Rs α) (f : α → Sg → Ob) (_ : Lz f) : Ob := x.ob f
def Ob.bnd (x : Ob) (f : Sg → Ob) (_ : Lz f) : Ob := x.bind f
@[simp ↓] theorem rsb_bnd (x : Rs α) (f : α → Sg → Rs β) : x.bind f = x.bnd f PUnit.unit := id rfl
@[simp ↓] theorem rso_obn (x : Rs α) (f : α → Sg → Ob) : x.ob f = x.obn f PUnit.unit := id rfl
@[simp ↓] theorem obb_bnd (x : Ob) (f : Sg → Ob) : x.bind f = x.bnd f PUnit.unit := id rfl
@[simp] theorem rsb_ok (a : α) (s : Sg) (f : α → Sg → Rs β) : (Rs.ok a s).bnd f PUnit.unit = f a s := id rfl
@[simp] theorem rsb_bad (f : α → Sg → Rs β) : (Rs.bad : Rs α).bnd f PUnit.unit = .bad := id rfl
@[simp] theorem rsb_ex (x : Xc) (s : Sg) (f : α → Sg → Rs β) : (Rs.ex x s : Rs α).bnd f PUnit.unit = .ex x s := id rfl
@[simp] theorem rso_ok (a : α) (s : Sg) (f : α → Sg → Ob) : (Rs.ok a s).obn f PUnit.unit = f a s := id rfl
@[simp] theorem rso_bad (f : α → Sg → Ob) : (Rs.bad : Rs α).obn f PUnit.unit = .bad := id rfl
@[simp] theorem rso_ex (x : Xc) (s : Sg) (f : α → Sg → Ob) : (Rs.ex x s : Rs α).obn f PUnit.unit = .ex x s := id rfl
@[simp] theorem obb_nx (s : Sg) (f : Sg → Ob) : (Ob.nx s).bnd f PUnit.unit = f s := id rfl
@[simp] theorem obb_rt (d : D) (s : Sg) (f : Sg → Ob) : (Ob.rt d s).bnd f PUnit.unit = .rt d s := id rfl
@[simp] theorem obb_ex (x : Xc) (s : Sg) (f : Sg → Ob) : (Ob.ex x s).bnd f PUnit.unit = .ex x s := id rfl
@[simp] theorem obb_bad (f : Sg → Ob) : Ob.bad.bnd f PUnit.unit = .bad := id rfl
@[simp] theorem rof_some (a : α) (s : Sg) : Rs.of (some a) s = .ok a s := id rfl
@[simp] theorem rof_none (s : Sg) : Rs.of (none : Option α) s = .bad := id rfl
@[simp] theorem rr_ok (d : D) (m : Mem) (st : Sg) : (Rr.ok d m).rs st = .ok d ⟨st.sl, m⟩ := id rfl
@[simp] theorem nox_ok (a : α) (s : Sg) : (Rs.ok a s).nox = .ok a s := id rfl
theorem rsb_ite (c : Prop) [Decidable c] (x y : Rs α) (f : α → Sg → Rs β) : (if c then x else y).bind f = if c then x.bind f else y.bind f := by split <;> rfl
theorem rso_ite (c : Prop) [Decidable c] (x y : Rs α) (f : α → Sg → Ob) : (if c then x else y).ob f = if c then x.ob f else y.ob f := by split <;> rfl
theorem obb_ite (c : Prop) [Decidable c] (x y : Ob) (f : Sg → Ob) : (if c then x else y).bind f = if c then x.bind f else y.bind f := by split <;> rfl
end
/-! places -/
@[simp] theorem drf_non (m : Mem) : drf m .non = .non := id rfl
@[simp] theorem drf_bl (m : Mem) (b : Bool) : drf m (.bl b) = .bl b := id rfl
@[simp] theorem drf_int (m : Mem) (i : Int) : drf m (.int i) = .int i := id rfl
@[simp] theorem drf_str (m : Mem) (s : List Nat) : drf m (.str s) = .str s := id rfl
@[simp] theorem drf_node (m : Mem) (o : Bool) (k : Kn) (xs : List D) : drf m (.node o k xs) = .node o k xs := id rfl
@[simp] theorem drf_cell (m : Mem) (n : Nat) : drf m (.cell n) = (m[n]?).getD (.cell n) := id rfl
@[simp] theorem al_non : D.al .non = true := id rfl
@[simp] theorem al_bl (b : Bool) : D.al (.bl b) = true := id rfl
@[simp] theorem al_int (i : Int) : D.al (.int i) = true := id rfl
@[simp] theorem al_str (s : List Nat) : D.al (.str s) = true := id rfl
@[simp] theorem al_node (o : Bool) (k : Kn) (xs : List D) : D.al (.node o k xs) = !o := id rfl
@[simp] theorem al_cell (n : Nat) : D.al (.cell n) = true := id rfl
@[simp] theorem sh_non : D.sh .non = true := id rfl
@[simp] theorem sh_bl (b : Bool) : D.sh (.bl b) = true := id rfl
@[simp] theorem sh_int (i : Int) : D.sh (.int i) = true := id rfl
@[simp] theorem sh_str (s : List Nat) : D.sh (.str s) = true := id rfl
@[simp] theorem sh_node (o : Bool) (k : Kn) (xs : List D) : D.sh (.node o k xs) = (!o && D.shL xs) := by simp [D.sh]
@[simp] theorem sh_cell (n : Nat) : D.sh (.cell n) = false := id rfl
@[simp] theorem shL_nil : D.shL [] = true := id rfl
@[simp] theorem shL_cons (x : D) (r : List D) : D.shL (x :: r) = (D.sh x && D.shL r) := by simp [D.shL]
@[simp] theorem nc_non : D.nc .non = true := id rfl
@[simp] theorem nc_bl (b : Bool) : D.nc (.bl b) = true := id rfl
@[simp] theorem nc_int (i : Int) : D.nc (.int i) = true := id rfl
@[simp] theorem nc_str (s : List Nat) : D.nc (.str s) = true := id rfl
@[simp] theorem nc_node (o : Bool) (k : Kn) (xs : List D) : D.nc (.node o k xs) = D.ncL xs := by simp [D.nc]
@[simp] theorem nc_cell (n : Nat) : D.nc (.cell n) = false := id rfl
@[simp] theorem ncL_nil : D.ncL [] = true := id rfl
@[simp] theorem ncL_cons (x : D) (r : List D) : D.ncL (x :: r) = (D.nc x && D.ncL r) := by simp [D.ncL]
@[simp] theorem frz_non : D.frz .non = .non := id rfl
@[simp] theorem frz_bl (b : Bool) : D.frz (.bl b) = .bl b := id rfl
@[simp] theorem frz_int (i : Int) : D.frz (.int i) = .int i := id rfl
@[simp] theorem frz_str (s : List Nat) : D.frz (.str s) = .str s := id rfl
@[simp] theorem frz_node (o : Bool) (k : Kn) (xs : List D) : D.frz (.node o k xs) = .node false k (D.frzL xs) := by simp [D.frz]
@[simp] theorem frzD_cell (n : Nat) : D.frz (.cell n) = .cell n := id rfl
@[simp] theorem frzL_nil : D.frzL [] = [] := id rfl
@[simp] theorem frzL_cons (x : D) (r : List D) : D.frzL (x :: r) = D.frz x :: D.frzL r := by simp [D.frzL]
@[simp] theorem bel_non (n : Nat) : D.bel n .non = true := id rfl
@[simp] theorem bel_bl (n : Nat) (b : Bool) : D.bel n (.bl b) = true := id rfl
@[simp] theorem bel_int (n : Nat) (i : Int) : D.bel n (.int i) = true := id rfl
@[simp] theorem bel_str (n : Nat) (s : List Nat) : D.bel n (.str s) = true := id rfl
@[simp] theorem bel_node (n : Nat) (o : Bool) (k : Kn) (xs : List D) : D.bel n (.node o k xs) = D.belL n xs := by simp [D.bel]
@[simp] theorem bel_cell (n c : Nat) : D.bel n (.cell c) = decide (c < n) := id rfl
@[simp] theorem belL_nil (n : Nat) : D.belL n [] = true := id rfl
@[simp] theorem belL_cons (n : Nat) (x : D) (r : List D) : D.belL n (x :: r) = (D.bel n x && D.belL n r) := by simp [D.belL]
@[simp] theorem tidy_nil (n : Nat) : tidy n [] = true := id rfl
@[simp] theorem tidy_cons (n : Nat) (x : D) (r : Mem) : tidy n (x :: r) = (D.bel n x && tidy n r) := id rfl
@[simp] theorem cl_fn (P : Prog) (r : Bool → String → List D → Mem → Rr) (n : Nat) : (P.cl r n).fn = r := id rfl
@[simp] theorem cl_con (P : Prog) (r : Bool → String → List D → Mem → Rr) (n : Nat) : (P.cl r n).con = P.con := id rfl
@[simp] theorem cl_ini (P : Prog) (r : Bool → String → List D → Mem → Rr) (n : Nat) : (P.cl r n).ini = P.ini := id rfl
@[simp] theorem cl_meth (P : Prog) (r : Bool → String → List D → Mem → Rr) (n : Nat) : (P.cl r n).meth = P.meth := id rfl
@[simp] theorem cl_frz (P : Prog) (r : Bool → String → List D → Mem → Rr) (n : Nat) : (P.cl r n).frz = P.frz := id rfl
@[simp] theorem cl_sub (P : Prog) (r : Bool → String → List D → Mem → Rr) (n : Nat) : (P.cl r n).sub = P.sub := id rfl
@[simp] theorem isNm_cn (d : D) : CE.isNm (.cn d) = false := id rfl
@[simp] theorem isPk_cn (d : D) : CE.isPk (.cn d) = true := id rfl
@[simp] theorem isNm_nm (i : Nat) (m : Md) : CE.isNm (.nm i m) = true := id rfl
@[simp] theorem isPk_nm (i : Nat) (m : Md) : CE.isPk (.nm i m) = true := id rfl
@[simp] theorem isNm_gl (x : String) : CE.isNm (.gl x) = false := id rfl
@[simp] theorem isPk_gl (x : String) : CE.isPk (.gl x) = true := id rfl
@[simp] theorem isNm_bop (o : Bop) (a b : CE) : CE.isNm (.bop o a b) = false := id rfl
@[simp] theorem isPk_bop (o : Bop) (a b : CE) : CE.isPk (.bop o a b) = false := id rfl
@[simp] theorem isNm_uop (o : Uop) (a : CE) : CE.isNm (.uop o a) = false := id rfl
@[simp] theorem isPk_uop (o : Uop) (a : CE) : CE.isPk (.uop o a) = false := id rfl
@[simp] theorem isNm_cmp (o : Cop) (a b : CE) : CE.isNm (.cmp o a b) = false := id rfl
@[simp] theorem isPk_cmp (o : Cop) (a b : CE) : CE.isPk (.cmp o a b) = false := id rfl
@[simp] theorem isNm_chn (o p : Cop) (a b c : CE) : CE.isNm (.chn o p a b c) = false := id rfl
@[simp] theorem isPk_chn (o p : Cop) (a b c : CE) : CE.isPk (.chn o p a b c) = false := id rfl
@[simp] theorem isNm_and_ (a b : CE) : CE.isNm (.and_ a b) = false := id rfl
@[simp] theorem isPk_and_ (a b : CE) : CE.isPk (.and_ a b) = false := id rfl
@[simp] theorem isNm_or_ (a b : CE) : CE.isNm (.or_ a b) = false := id rfl
@[simp] theorem isPk_or_ (a b : CE) : CE.isPk (.or_ a b) = false := id rfl
@[simp] theorem isNm_not_ (a : CE) : CE.isNm (.not_ a) = false := id rfl
@[simp] theorem isPk_not_ (a : CE) : CE.isPk (.not_ a) = false := id rfl
@[simp] theorem isNm_ite (c a b : CE) : CE.isNm (.ite c a b) = false := id rfl
@[simp] theorem isPk_ite (c a b : CE) : CE.isPk (.ite c a b) = false := id rfl
@[simp] theorem isNm_tup (es : CEs) : CE.isNm (.tup es) = false := id rfl
@[simp] theorem isPk_tup (es : CEs) : CE.isPk (.tup es) = false := id rfl
@[simp] theorem isNm_lst (es : CEs) : CE.isNm (.lst es) = false := id rfl
@[simp] theorem isPk_lst (es : CEs) : CE.isPk (.lst es) = false := id rfl
@[simp] theorem isNm_dct (t : Bool) (ks vs : CEs) : CE.isNm (.dct t ks vs) = false := id rfl
@[simp] theorem isPk_dct (t : Bool) (ks vs : CEs) : CE.isPk (.dct t ks vs) = false := id rfl
@[simp] theorem isNm_idx (a i : CE) (m : Md) : CE.isNm (.idx a i m) = false := id rfl
@[simp] theorem isPk_idx (a i : CE) (m : Md) : CE.isPk (.idx a i m) = (a.isPk && i.isPk) := id rfl
@[simp] theorem isNm_slc (a lo hi : CE) : CE.isNm (.slc a lo hi) = false := id rfl
@[simp] theorem isPk_slc (a lo hi : CE) : CE.isPk (.slc a lo hi) = false := id rfl
@[simp] theorem isNm_fld (a : CE) (f : String) (m : Md) : CE.isNm (.fld a f m) = false := id rfl
@[simp] theorem isPk_fld (a : CE) (f : String) (m : Md) : CE.isPk (.fld a f m) = a.isPk := id rfl
@[simp] theorem isNm_cal (f : String) (es : CEs) : CE.isNm (.cal f es) = false := id rfl
@[simp] theorem isPk_cal (f : String) (es : CEs) : CE.isPk (.cal f es) = false := id rfl
@[simp] theorem isNm_mak (c : String) (es : CEs) : CE.isNm (.mak c es) = false := id rfl
@[simp] theorem isPk_mak (c : String) (es : CEs) : CE.isPk (.mak c es) = false := id rfl
@[simp] theorem isNm_met (o : CE) (m : String) (es : CEs) : CE.isNm (.met o m es) = false := id rfl
@[simp] theorem isPk_met (o : CE) (m : String) (es : CEs) : CE.isPk (.met o m es) = false := id rfl
@[simp] theorem isNm_xmk (c : String) (es : CEs) : CE.isNm (.xmk c es) = false := id rfl
@[simp] theorem isPk_xmk (c : String) (es : CEs) : CE.isPk (.xmk c es) = false := id rfl
@[simp] theorem isNm_scm (c m : String) (es : CEs) : CE.isNm (.scm c m es) = false := id rfl
@[simp] theorem isPk_scm (c m : String) (es : CEs) : CE.isPk (.scm c m es) = false := id rfl
@[simp] theorem isNm_bl1 (b : Blt) (a : CE) : CE.isNm (.bl1 b a) = false := id rfl
@[simp] theorem isPk_bl1 (b : Blt) (a : CE) : CE.isPk (.bl1 b a) = false := id rfl
@[simp] theorem isNm_bl2 (b : Blt) (a d : CE) : CE.isNm (.bl2 b a d) = false := id rfl
@[simp] theorem isPk_bl2 (b : Blt) (a d : CE) : CE.isPk (.bl2 b a d) = false := id rfl
@[simp] theorem isNm_bm0 (b : Bmt) (o : CE) : CE.isNm (.bm0 b o) = false := id rfl
@[simp] theorem isPk_bm0 (b : Bmt) (o : CE) : CE.isPk (.bm0 b o) = false := id rfl
@[simp] theorem isNm_bm1 (b : Bmt) (o a : CE) : CE.isNm (.bm1 b o a) = false := id rfl
@[simp] theorem isPk_bm1 (b : Bmt) (o a : CE) : CE.isPk (.bm1 b o a) = false := id rfl
@[simp] theorem isNm_isi (a : CE) (ts : List Ty) : CE.isNm (.isi a ts) = false := id rfl
@[simp] theorem isPk_isi (a : CE) (ts : List Ty) : CE.isPk (.isi a ts) = false := id rfl
@[simp] theorem isNm_mut (b : Mut) (o : CE) (es : CEs) : CE.isNm (.mut b o es) = false := id rfl
@[simp] theorem isPk_mut (b : Mut) (o : CE) (es : CEs) : CE.isPk (.mut b o es) = false := id rfl
@[simp] theorem isNm_cmpr (elt : CE) (tg : Tg) (it : CI) (cond : CE) (own : List Nat) : CE.isNm (.cmpr elt tg it cond own) = false := id rfl
@[simp] theorem isPk_cmpr (elt : CE) (tg : Tg) (it : CI) (cond : CE) (own : List Nat) : CE.isPk (.cmpr elt tg it cond own) = false := id rfl
/-! names -/
def rdO (m : Md) (i : Nat) (d : D) (st : Sg) : Rs D := match m with
  | .frz => if d.nc then .ok d.frz ⟨st.sl.set i (some d.frz), st.m⟩ else .bad
  | .att => if d.nc then .ok (.cell st.m.length) ⟨st.sl.set i (some (.cell st.m.length)), st.m ++ [d]⟩ else .bad
  | .mov => .ok d ⟨st.sl.set i none, st.m⟩
  | .lnd => .bad
def rdF (m : Md) (i : Nat) (st : Sg) : Option D → Rs D
  | none => .bad
  | some d => if d.al then .ok d st else rdO m i d st
theorem rdN_eq (i : Nat) (m : Md) (st : Sg) : rdN i m st = rdF m i st (st.sl[i]?).join := by
  unfold rdN rdF rdO
  cases (st.sl[i]?).join with
  | none => rfl
  | some d => rfl
@[simp] theorem rdF_some (m : Md) (i : Nat) (st : Sg) (d : D) : rdF m i st (some d) = if d.al then .ok d st else rdO m i d st := id rfl
@[simp] theorem rdF_none (m : Md) (i : Nat) (st : Sg) : rdF m i st none = .bad := id rfl
@[simp] theorem rdO_frz (i : Nat) (d : D) (st : Sg) : rdO .frz i d st = if d.nc then .ok d.frz ⟨st.sl.set i (some d.frz), st.m⟩ else .bad := id rfl
@[simp] theorem rdO_att (i : Nat) (d : D) (st : Sg) : rdO .att i d st = if d.nc then .ok (.cell st.m.length) ⟨st.sl.set i (some (.cell st.m.length)), st.m ++ [d]⟩ else .bad := id rfl
@[simp] theorem rdO_mov (i : Nat) (d : D) (st : Sg) : rdO .mov i d st = .ok d ⟨st.sl.set i none, st.m⟩ := id rfl
section
variable (F : Cl)
@[simp] theorem pk_cn (d : D) (st : Sg) : pk F (.cn d) st = some d := id rfl
@[simp] theorem pk_nm (i : Nat) (m : Md) (st : Sg) : pk F (.nm i m) st = (st.sl[i]?).join := id rfl
@[simp] theorem pk_gl (x : String) (st : Sg) : pk F (.gl x) st = F.con x := id rfl
@[simp] theorem pk_idx (a i : CE) (m : Md) (st : Sg) : pk F (.idx a i m) st = (pk F a st).bind fun a => (pk F i st).bind fun i => idxD (drf st.m a) i := id rfl
@[simp] theorem pk_fld (a : CE) (f : String) (m : Md) (st : Sg) : pk F (.fld a f m) st = (pk F a st).bind fun a => fldD (drf st.m a) f := id rfl
@[simp] theorem opd_t (k : Sg → Option D) (f : Sg → Rs D) (st : Sg) : opd true k f st = Rs.of (k st) st := id rfl
@[simp] theorem opd_f (k : Sg → Option D) (f : Sg → Rs D) (st : Sg) : opd false k f st = f st := id rfl
@[simp] theorem two_t (k : Sg → Option D) (fa fb : Sg → Rs D) (st : Sg) : two true k fa fb st = (Rs.of (k st) st).bind fun _ st => (fb st).bind fun b st => (Rs.of (k st) st).bind fun a st => .ok (a, b) st := id rfl
@[simp] theorem two_f (k : Sg → Option D) (fa fb : Sg → Rs D) (st : Sg) : two false k fa fb st = (fa st).bind fun a st => (fb st).bind fun b st => .ok (a, b) st := id rfl
/-! values -/
@[simp] theorem v_cn (d : D) (st : Sg) : (evx F (.cn d)).v st = .ok d st := id rfl
@[simp] theorem v_nm (i : Nat) (m : Md) (st : Sg) : (evx F (.nm i m)).v st = rdF m i st (st.sl[i]?).join := rdN_eq i m st
@[simp] theorem v_gl (x : String) (st : Sg) : (evx F (.gl x)).v st = Rs.of (F.con x) st := id rfl
@[simp] theorem v_bop (o : Bop) (a b : CE) (st : Sg) : (evx F (.bop o a b)).v st = (two (a.isNm || (a.isPk && b.isPk)) (pk F a) (evx F a).v (opd b.isPk (pk F b) (evx F b).v) st).bind fun p st => Rs.of (bopD o (drf st.m p.1) (drf st.m p.2)) st := id rfl
@[simp] theorem v_uop (o : Uop) (a : CE) (st : Sg) : (evx F (.uop o a)).v st = (opd a.isPk (pk F a) (evx F a).v st).bind fun d st => Rs.of (uopD o (drf st.m d)) st := id rfl
@[simp] theorem v_cmp (o : Cop) (a b : CE) (st : Sg) : (evx F (.cmp o a b)).v st = (two (a.isNm || (a.isPk && b.isPk)) (pk F a) (evx F a).v (opd b.isPk (pk F b) (evx F b).v) st).bind fun p st => Rs.of ((copD o (drf st.m p.1) (drf st.m p.2)).map D.bl) st := id rfl
@[simp] theorem v_chn (o q : Cop) (a b c : CE) (st : Sg) : (evx F (.chn o q a b c)).v st = (two (a.isNm || (a.isPk && b.isPk)) (pk F a) (evx F a).v (opd b.isPk (pk F b) (evx F b).v) st).bind fun p st => (Rs.of (copD o (drf st.m p.1) (drf st.m p.2)) st).bind fun t st =>
      if !p.2.sh then .bad else if t then (opd c.isPk (pk F c) (evx F c).v st).bind fun d st => Rs.of ((copD q p.2 (drf st.m d)).map D.bl) st else .ok (.bl false) st := rfl
@[simp] theorem v_and (a b : CE) (st : Sg) : (evx F (.and_ a b)).v st = ((evx F a).v st).bind fun d st => (Rs.of (trD (drf st.m d)) st).bind fun t st => if t then (evx F b).v st else .ok d st := id rfl
@[simp] theorem v_or (a b : CE) (st : Sg) : (evx F (.or_ a b)).v st = ((evx F a).v st).bind fun d st => (Rs.of (trD (drf st.m d)) st).bind fun t st => if t then .ok d st else (evx F b).v st := id rfl
@[simp] theorem v_not (a : CE) (st : Sg) : (evx F (.not_ a)).v st = (opd a.isPk (pk F a) (evx F a).v st).bind fun d st => Rs.of ((trD (drf st.m d)).map fun t => .bl (!t)) st := id rfl
@[simp] theorem v_ite (c a b : CE) (st : Sg) : (evx F (.ite c a b)).v st = ((evx F c).t st).bind fun t st => if t then (evx F a).v st else (evx F b).v st := id rfl
@[simp] theorem v_tup (es : CEs) (st : Sg) : (evx F (.tup es)).v st = (evv F es st).bind fun ds st => if ds.length ≤ 16777216 then .ok (if D.shL ds then .tup false ds else .tup true ds) st else .bad := id rfl
@[simp] theorem v_lst (es : CEs) (st : Sg) : (evx F (.lst es)).v st = (evv F es st).bind fun ds st => if ds.length ≤ 16777216 then .ok (.lst true ds) st else .bad := id rfl
@[simp] theorem v_dct (t : Bool) (ks vs : CEs) (st : Sg) : (evx F (.dct t ks vs)).v st = (pairE (evL F ks) (evL F vs) st).bind fun p st => if t then (if p.1.length = 0 ∧ p.2.length = 0 then .ok (.dT true [] []) st else .bad)
      else (Rs.of (keyAs p.1) st).bind fun k st => if k.length ≤ 15 ∧ k.length = p.2.length ∧ k.Nodup then .ok (.dK true k p.2) st else .bad := rfl
@[simp] theorem v_idx (a i : CE) (m : Md) (st : Sg) : (evx F (.idx a i m)).v st = (two (a.isNm || (a.isPk && i.isPk)) (pk F a) (evx F a).v (opd i.isPk (pk F i) (evx F i).v) st).bind fun p st => (Rs.of (idxD (drf st.m p.1) p.2) st).bind fun d st => if d.al then .ok d st else .bad := id rfl
@[simp] theorem v_fld (a : CE) (f : String) (m : Md) (st : Sg) : (evx F (.fld a f m)).v st = (opd a.isPk (pk F a) (evx F a).v st).bind fun x st => (Rs.of (fldD (drf st.m x) f) st).bind fun d st => if d.al then .ok d st else .bad := id rfl
@[simp] theorem v_cal (f : String) (es : CEs) (st : Sg) : (evx F (.cal f es)).v st = (evv F es st).bind fun ds st => (F.fn false f ds st.m).rs st := id rfl
@[simp] theorem v_bl1 (b : Blt) (a : CE) (st : Sg) : (evx F (.bl1 b a)).v st = (opd a.isPk (pk F a) (evx F a).v st).bind fun d st => Rs.of (bltD b [drf st.m d]) st := id rfl
@[simp] theorem v_bl2 (b : Blt) (a d : CE) (st : Sg) : (evx F (.bl2 b a d)).v st = (two (a.isNm || (a.isPk && d.isPk)) (pk F a) (evx F a).v (opd d.isPk (pk F d) (evx F d).v) st).bind fun p st => Rs.of (bltD b [drf st.m p.1, drf st.m p.2]) st := id rfl
@[simp] theorem v_isi (a : CE) (ts : List Ty) (st : Sg) : (evx F (.isi a ts)).v st = (opd a.isPk (pk F a) (evx F a).v st).bind fun d st => Rs.of ((isiL F (drf st.m d) ts).map D.bl) st := id rfl
@[simp] theorem v_mut (b : Mut) (o : CE) (es : CEs) (st : Sg) : (evx F (.mut b o es)).v st = (Rs.of ((pk F o st).bind fun x => if isLst (drf st.m x) then some x else none) st).bind fun _ st => (evv F es st).bind fun ds st => (Rs.of (pk F o st) st).bind fun x st =>
      (Rs.of (mutD b (drf st.m x) ds) st).bind fun p st => (Rs.of (putO o p.1 st) st).bind fun st' _ => .ok p.2 st' := rfl
/-- a comprehension's turns -/
def lcB (elt : CE) (tg : Tg) (cond : CE) (own : List Nat) : List D → List D → Sg → Rs (List D) :=
  lcL (fun x st => (Rs.of (tgD tg x ⟨wipe own st.sl, st.m⟩) st).bind fun st' _ => ((evx F cond).t st').bind fun t st => if t then ((evx F elt).v st).bind fun d st => .ok (some d) st else .ok none st)
@[simp] theorem v_cmpr (elt : CE) (tg : Tg) (it : CI) (cond : CE) (own : List Nat) (st : Sg) : (evx F (.cmpr elt tg it cond own)).v st = (itD F it st).bind fun xs st => if ownOk own st.sl then
      (lcB F elt tg cond own xs [] st).bind fun ds st' => .ok (.lst true ds) ⟨restore own st.sl st'.sl, st'.m⟩ else .bad := rfl
/-! truths -/
theorem t_mk (v : Sg → Rs D) (st : Sg) : (EV.mk' v).t st = (v st).bind fun d st => Rs.of (trD (drf st.m d)) st := rfl
@[simp] theorem t_cn (d : D) (st : Sg) : (evx F (.cn d)).t st = Rs.of (trD (drf st.m d)) st := id rfl
@[simp] theorem t_nm (i : Nat) (m : Md) (st : Sg) : (evx F (.nm i m)).t st = (Rs.of (st.sl[i]?).join st).bind fun d st => Rs.of (trD (drf st.m d)) st := id rfl
@[simp] theorem t_gl (x : String) (st : Sg) : (evx F (.gl x)).t st = (Rs.of (F.con x) st).bind fun d st => Rs.of (trD (drf st.m d)) st := id rfl
@[simp] theorem t_bop (o : Bop) (a b : CE) (st : Sg) : (evx F (.bop o a b)).t st = ((evx F (.bop o a b)).v st).bind fun d st => Rs.of (trD (drf st.m d)) st := id rfl
@[simp] theorem t_cmp (o : Cop) (a b : CE) (st : Sg) : (evx F (.cmp o a b)).t st = ((evx F (.cmp o a b)).v st).bind fun d st => Rs.of (trD (drf st.m d)) st := id rfl
@[simp] theorem t_chn (o q : Cop) (a b c : CE) (st : Sg) : (evx F (.chn o q a b c)).t st = ((evx F (.chn o q a b c)).v st).bind fun d st => Rs.of (trD (drf st.m d)) st := id rfl
@[simp] theorem t_and (a b : CE) (st : Sg) : (evx F (.and_ a b)).t st = ((evx F a).t st).bind fun t st => if t then (evx F b).t st else .ok false st := id rfl
@[simp] theorem t_or (a b : CE) (st : Sg) : (evx F (.or_ a b)).t st = ((evx F a).t st).bind fun t st => if t then .ok true st else (evx F b).t st := id rfl
@[simp] theorem t_not (a : CE) (st : Sg) : (evx F (.not_ a)).t st = ((evx F a).t st).bind fun t st => .ok (!t) st := id rfl
@[simp] theorem t_ite (c a b : CE) (st : Sg) : (evx F (.ite c a b)).t st = ((evx F c).t st).bind fun t st => if t then (evx F a).t st else (evx F b).t st := id rfl
@[simp] theorem t_tup (es : CEs) (st : Sg) : (evx F (.tup es)).t st = ((evx F (.tup es)).v st).bind fun d st => Rs.of (trD (drf st.m d)) st := id rfl
@[simp] theorem t_lst (es : CEs) (st : Sg) : (evx F (.lst es)).t st = ((evx F (.lst es)).v st).bind fun d st => Rs.of (trD (drf st.m d)) st := id rfl
@[simp] theorem t_idx (a i : CE) (m : Md) (st : Sg) : (evx F (.idx a i m)).t st = ((evx F (.idx a i m)).v st).bind fun d st => Rs.of (trD (drf st.m d)) st := id rfl
@[simp] theorem t_fld (a : CE) (f : String) (m : Md) (st : Sg) : (evx F (.fld a f m)).t st = ((evx F (.fld a f m)).v st).bind fun d st => Rs.of (trD (drf st.m d)) st := id rfl
@[simp] theorem t_cal (f : String) (es : CEs) (st : Sg) : (evx F (.cal f es)).t st = ((evx F (.cal f es)).v st).bind fun d st => Rs.of (trD (drf st.m d)) st := id rfl
@[simp] theorem t_bl1 (b : Blt) (a : CE) (st : Sg) : (evx F (.bl1 b a)).t st = ((evx F (.bl1 b a)).v st).bind fun d st => Rs.of (trD (drf st.m d)) st := id rfl
@[simp] theorem t_isi (a : CE) (ts : List Ty) (st : Sg) : (evx F (.isi a ts)).t st = ((evx F (.isi a ts)).v st).bind fun d st => Rs.of (trD (drf st.m d)) st := id rfl
@[simp] theorem evv_nil (st : Sg) : evv F .nil st = .ok [] st := id rfl
@[simp] theorem evv_cons (e : CE) (r : CEs) (st : Sg) : evv F (.cons e r) st = ((evx F e).v st).bind fun d st => (evv F r st).bind fun ds st => .ok (d :: ds) st := id rfl
@[simp] theorem evL_nil : evL F .nil = [] := id rfl
@[simp] theorem evL_cons (e : CE) (r : CEs) : evL F (.cons e r) = evx F e :: evL F r := id rfl
@[simp] theorem pairE_nil (st : Sg) : pairE [] [] st = .ok ([], []) st := id rfl
@[simp] theorem pairE_cons (k v : EV) (ks vs : List EV) (st : Sg) : pairE (k :: ks) (v :: vs) st = (k.v st).bind fun a st => (v.v st).bind fun b st => (pairE ks vs st).bind fun p st => .ok (a :: p.1, b :: p.2) st := id rfl
/-! what is walked -/
@[simp] theorem it_val (e : CE) (st : Sg) : itD F (.val e) st = ((evx F e).v st).bind fun d st => Rs.of (rowD d) st := id rfl
def rngB (d : D) (st : Sg) : Rs (List D) := match d with
      | .int j => if small62 j then .ok (rngL 0 j.toNat) st else .bad
      | _ => .bad
@[simp] theorem rngB_int (j : Int) (st : Sg) : rngB (.int j) st = if small62 j then .ok (rngL 0 j.toNat) st else .bad := id rfl
@[simp] theorem it_rng1 (a : CE) (st : Sg) : itD F (.rng1 a) st = ((evx F a).v st).bind rngB := id rfl
def rngB2 (d e : D) (st : Sg) : Rs (List D) := match d, e with
      | .int i, .int j => if small62 i ∧ small62 j then .ok (rngL i (j - i).toNat) st else .bad
      | _, _ => .bad
@[simp] theorem rngB2_int (i j : Int) (st : Sg) : rngB2 (.int i) (.int j) st = if small62 i ∧ small62 j then .ok (rngL i (j - i).toNat) st else .bad := id rfl
@[simp] theorem it_rng2 (a b : CE) (st : Sg) : itD F (.rng2 a b) st = ((evx F a).v st).bind fun d st => ((evx F b).v st).bind fun e st => rngB2 d e st := id rfl
@[simp] theorem it_enum (e : CE) (st : Sg) : itD F (.enum e) st = ((evx F e).v st).bind fun d st => (Rs.of (rowE d) st).bind fun xs st => .ok (enumL 0 xs) st := id rfl
@[simp] theorem it_zip (a b : CE) (st : Sg) : itD F (.zip a b) st = ((evx F a).v st).bind fun d st => ((evx F b).v st).bind fun e st => Rs.of (rowZ d e) st := id rfl
@[simp] theorem it_rev (e : CE) (st : Sg) : itD F (.rev e) st = ((evx F e).v st).bind fun d st => (Rs.of (rowL d) st).bind fun xs st => .ok xs.reverse st := id rfl
/-! statements -/
def loopB (tg : Tg) (b : CSs) : List D → Sg → Ob := forL (fun x st => (Rs.of (tgD tg x st) st).ob fun st' _ => xss F b st')
def whlB (c : CE) (b : CSs) (n : Nat) (st : Sg) : Ob := whlL (tst F c) (xss F b) n st
@[simp] theorem x_nil (st : Sg) : xss F .nil st = .nx st := id rfl
@[simp] theorem x_cons (s : CS) (r : CSs) (st : Sg) : xss F (.cons s r) st = (xst F s st).bind fun st => xss F r st := id rfl
@[simp] theorem x_asg (t : Tg) (e : CE) (st : Sg) : xst F (.asg t e) st = ((evx F e).v st).ob fun d st => (Rs.of (tgD t d st) st).ob fun st' _ => .nx st' := id rfl
@[simp] theorem x_aug (i : Nat) (o : Bop) (e : CE) (st : Sg) : xst F (.aug i o e) st = (Rs.of ((st.sl[i]?).join) st).ob fun _ st => ((evx F e).v st).ob fun d st => (Rs.of (((st.sl[i]?).join).bind fun x => augD o x d) st).ob fun y st => .nx ⟨st.sl.set i (some y), st.m⟩ := id rfl
@[simp] theorem x_setI (o i e : CE) (st : Sg) : xst F (.setI o i e) st = ((evx F e).v st).ob fun d st => (Rs.of (pk F o st) st).ob fun _ st => (opd i.isPk (pk F i) (evx F i).v st).ob fun k st => (Rs.of ((pk F o st).bind fun x => (setD (drf st.m x) k d).bind fun y => putO o y st) st).ob fun st' _ => .nx st' := id rfl
@[simp] theorem x_setF (o : CE) (f : String) (e : CE) (st : Sg) : xst F (.setF o f e) st = ((evx F e).v st).ob fun d st => (Rs.of ((pk F o st).bind fun x => (setFD (drf st.m x) f d).bind fun y => putO o y st) st).ob fun st' _ => .nx st' := id rfl
@[simp] theorem x_ex (e : CE) (st : Sg) : xst F (.ex e) st = ((evx F e).v st).ob fun _ st => .nx st := id rfl
@[simp] theorem x_ret (e : CE) (st : Sg) : xst F (.ret e) st = ((evx F e).v st).ob fun d st => .rt d st := id rfl
@[simp] theorem x_retN (st : Sg) : xst F .retN st = .rt .non st := id rfl
@[simp] theorem x_ifs (c : CE) (a b : CSs) (st : Sg) : xst F (.ifs c a b) st = ((evx F c).t st).ob fun t st => if t then xss F a st else xss F b st := id rfl
@[simp] theorem x_for (tg : Tg) (it : CI) (b : CSs) (st : Sg) : xst F (.for_ tg it b) st = (itD F it st).ob fun l st => loopB F tg b l st := id rfl
def loopC (tg : Tg) (b : CSs) (n : Nat) : Nat → Nat → Sg → Ob := forC (fun x st => (Rs.of (tgD tg x st) st).ob fun st' _ => xss F b st') n
def wlkB (tg : Tg) (b : CSs) (d : D) (st : Sg) : Ob := wlk (fun x st => (Rs.of (tgD tg x st) st).ob fun st' _ => xss F b st') d st
def celB (tg : Tg) (b : CSs) (n : Nat) (st : Sg) : Option D → Ob
  | some (.node _ .lst xs) => loopC F tg b n (xs.length + 1) 0 st
  | _ => .bad
@[simp] theorem x_forc (tg : Tg) (e : CE) (b : CSs) (st : Sg) : xst F (.forc tg e b) st = ((evx F e).v st).ob fun d st => wlkB F tg b d st := id rfl
@[simp] theorem wlk_node (tg : Tg) (b : CSs) (o : Bool) (k : Kn) (xs : List D) (st : Sg) : wlkB F tg b (.node o k xs) st = (Rs.of (rowD (.node o k xs)) st).ob fun l st => loopB F tg b l st := id rfl
@[simp] theorem wlk_str (tg : Tg) (b : CSs) (s : List Nat) (st : Sg) : wlkB F tg b (.str s) st = (Rs.of (rowD (.str s)) st).ob fun l st => loopB F tg b l st := id rfl
@[simp] theorem wlk_cell (tg : Tg) (b : CSs) (n : Nat) (st : Sg) : wlkB F tg b (.cell n) st = celB F tg b n st st.m[n]? := by
  show (match st.m[n]? with
    | some (.node _ .lst xs) => forC (fun x st => (Rs.of (tgD tg x st) st).ob fun st' _ => xss F b st') n (xs.length + 1) 0 st
    | _ => .bad) = celB F tg b n st st.m[n]?
  unfold celB
  split <;> rfl
@[simp] theorem cel_lst (tg : Tg) (b : CSs) (n : Nat) (st : Sg) (o : Bool) (xs : List D) : celB F tg b n st (some (.node o .lst xs)) = loopC F tg b n (xs.length + 1) 0 st := id rfl
@[simp] theorem x_whl (c : CE) (b : CSs) (n : Nat) (st : Sg) : xst F (.whl c b n) st = whlB F c b n st := id rfl
@[simp] theorem x_pass (st : Sg) : xst F .pass st = .nx st := id rfl
def frsF (i : Nat) (st : Sg) : Option D → Ob
  | some d => if d.nc then .nx ⟨st.sl.set i (some d.frz), st.m⟩ else .bad
  | none => .bad
@[simp] theorem x_frs (i : Nat) (st : Sg) : xst F (.frs i) st = frsF i st (st.sl[i]?).join := by
  show frsO i st = _
  unfold frsO frsF
  cases (st.sl[i]?).join <;> rfl
@[simp] theorem frsF_some (i : Nat) (st : Sg) (d : D) : frsF i st (some d) = if d.nc then .nx ⟨st.sl.set i (some d.frz), st.m⟩ else .bad := id rfl
def frcM (i n : Nat) (st : Sg) : Option D → Ob
  | some d => if d.nc then .nx ⟨st.sl.set i (some d.frz), st.m.set n d.frz⟩ else .bad
  | none => .bad
def frcF (i : Nat) (st : Sg) : Option D → Ob
  | some (.cell n) => frcM i n st st.m[n]?
  | _ => .bad
@[simp] theorem x_frc (i : Nat) (st : Sg) : xst F (.frc i) st = frcF i st (st.sl[i]?).join := by
  show frcO i st = _
  unfold frcO frcF
  cases (st.sl[i]?).join with
  | none => rfl
  | some d =>
    cases d with
    | cell n => (try simp only [frcM]) <;> (cases st.m[n]? <;> rfl)
    | _ => rfl
@[simp] theorem frcF_cell (i n : Nat) (st : Sg) : frcF i st (some (.cell n)) = frcM i n st st.m[n]? := id rfl
@[simp] theorem frcM_some (i n : Nat) (st : Sg) (d : D) : frcM i n st (some d) = if d.nc then .nx ⟨st.sl.set i (some d.frz), st.m.set n d.frz⟩ else .bad := id rfl
@[simp] theorem x_kill (l : List Nat) (st : Sg) : xst F (.kill l) st = .nx ⟨wipe l st.sl, st.m⟩ := id rfl
@[simp] theorem wipe_nil (sl : List (Option D)) : wipe [] sl = sl := id rfl
@[simp] theorem wipe_cons (i : Nat) (r : List Nat) (sl : List (Option D)) : wipe (i :: r) sl = (wipe r sl).set i none := id rfl
@[simp] theorem tg_nm (i : Nat) (d : D) (st : Sg) : tgD (.nm i) d st = if i < st.sl.length then some ⟨st.sl.set i (some d), st.m⟩ else none := by simp [tgD]
@[simp] theorem tg_tup (ts : List Tg) (o : Bool) (xs : List D) (st : Sg) : tgD (.tup ts) (.node o .tup xs) st = tgL ts xs st := by simp [tgD]
@[simp] theorem tg_lst (ts : List Tg) (o : Bool) (xs : List D) (st : Sg) : tgD (.tup ts) (.node o .lst xs) st = tgL ts xs st := by simp [tgD]
@[simp] theorem tgL_nil (st : Sg) : tgL [] [] st = some st := by simp [tgL]
@[simp] theorem tgL_cons (t : Tg) (ts : List Tg) (x : D) (xs : List D) (st : Sg) : tgL (t :: ts) (x :: xs) st = if x.al then (tgD t x st).bind fun st => tgL ts xs st else none := by simp [tgL]
@[simp] theorem putO_fld (i : Nat) (m mf : Md) (f : String) (y : D) (st : Sg) : putO (.fld (.nm i m) f mf) y st = (st.sl[i]?).join.bind fun x => putF1 i f y (drf st.m x) st := id rfl
def putG (i : Nat) (f : String) (y : D) (o : Bool) (k : Kn) (xs : List D) (st : Sg) : Option D → Option Sg
  | some (.node true _ _) => putN i (.node o k xs) st
  | _ => none
@[simp] theorem putF1_obj (i : Nat) (f c : String) (y : D) (ns : List String) (xs : List D) (st : Sg) : putF1 i f y (.node true (.obj c ns) xs) st = putG i f y true (.obj c ns) (setF1 f y ns xs) st (findF f ns xs) := by
  show (match findF f ns xs with
    | some (.node true _ _) => putN i (.node true (.obj c ns) (setF1 f y ns xs)) st
    | _ => none) = _
  unfold putG
  split <;> simp_all
@[simp] theorem putG_some (i : Nat) (f : String) (y : D) (o : Bool) (k k2 : Kn) (xs zs : List D) (st : Sg) : putG i f y o k xs st (some (.node true k2 zs)) = putN i (.node o k xs) st := id rfl
@[simp] theorem setF1_nil (f : String) (y : D) (xs : List D) : setF1 f y [] xs = xs := by cases xs <;> rfl
@[simp] theorem setF1_cons (f g : String) (y x : D) (gs : List String) (xs : List D) : setF1 f y (g :: gs) (x :: xs) = if g = f then y :: xs else x :: setF1 f y gs xs := id rfl
@[simp] theorem putO_nm (i : Nat) (m : Md) (y : D) (st : Sg) : putO (.nm i m) y st = putN i y st := id rfl
def putF' (i : Nat) (y : D) (st : Sg) : Option D → Option Sg
  | some (.cell n) => if n < st.m.length then some ⟨st.sl, st.m.set n y⟩ else none
  | some (.node true _ _) => some ⟨st.sl.set i (some y), st.m⟩
  | _ => none
@[simp] theorem putN_eq (i : Nat) (y : D) (st : Sg) : putN i y st = putF' i y st (st.sl[i]?).join := by
  unfold putN putF'
  cases (st.sl[i]?).join with
  | none => rfl
  | some d => cases d <;> rfl
@[simp] theorem putF_cell (i : Nat) (y : D) (st : Sg) (n : Nat) : putF' i y st (some (.cell n)) = if n < st.m.length then some ⟨st.sl, st.m.set n y⟩ else none := id rfl
@[simp] theorem putF_node (i : Nat) (y : D) (st : Sg) (k : Kn) (xs : List D) : putF' i y st (some (.node true k xs)) = some ⟨st.sl.set i (some y), st.m⟩ := id rfl
end
/-! ends -/
@[simp] theorem finO_nx (i k : Bool) (n : Nat) (st : Sg) : finO i k n (.nx st) = fin i k n .non st := id rfl
@[simp] theorem finO_rt (i k : Bool) (n : Nat) (d : D) (st : Sg) : finO i k n (.rt d st) = fin i k n d st := id rfl
@[simp] theorem finO_ex (i k : Bool) (n : Nat) (x : Xc) (st : Sg) : finO i k n (.ex x st) = if tidy n (st.m.take n) then .ex x (st.m.take n) else .bad := id rfl
theorem fin_al {n : Nat} {d : D} {st : Sg} (h : tidy n (st.m.take n) = true) (hd : d.nc = true) : fin false false n d st = .ok d.frz (st.m.take n) := by
  unfold fin
  rw [if_pos h]
  have e : handed d st n = some d.frz := by
    unfold handed
    cases d with
    | cell c => simp at hd
    | _ => simp_all
  simp [e]
@[simp] theorem fin_ff (n : Nat) (d : D) (st : Sg) : fin false false n d st = if tidy n (st.m.take n) then (match handed d st n with | some e => .ok e (st.m.take n) | none => .bad) else .bad := id rfl
@[simp] theorem fin_ft (n : Nat) (d : D) (st : Sg) : fin false true n d st = if tidy n (st.m.take n) then (match kept d st n with | some e => .ok e (st.m.take n) | none => .bad) else .bad := id rfl
@[simp] theorem kept_non (st : Sg) (n : Nat) : kept .non st n = some .non := by simp [kept]
@[simp] theorem kept_bl (b : Bool) (st : Sg) (n : Nat) : kept (.bl b) st n = some (.bl b) := by simp [kept]
@[simp] theorem kept_int (b : Int) (st : Sg) (n : Nat) : kept (.int b) st n = some (.int b) := by simp [kept]
@[simp] theorem kept_str (b : List Nat) (st : Sg) (n : Nat) : kept (.str b) st n = some (.str b) := by simp [kept]
@[simp] theorem kept_node (o : Bool) (k : Kn) (xs : List D) (st : Sg) (n : Nat) : kept (.node o k xs) st n = if D.belL n xs then some (.node o k xs) else none := by simp [kept]
@[simp] theorem kept_cell (c : Nat) (st : Sg) (n : Nat) : kept (.cell c) st n = if c < n then some (.cell c) else (match st.m[c]? with
  | some c => if D.bel n c then some c else none
  | none => none) := id rfl
@[simp] theorem handed_non (st : Sg) (n : Nat) : handed .non st n = some .non := id rfl
@[simp] theorem handed_bl (b : Bool) (st : Sg) (n : Nat) : handed (.bl b) st n = some (.bl b) := id rfl
@[simp] theorem handed_int (b : Int) (st : Sg) (n : Nat) : handed (.int b) st n = some (.int b) := id rfl
@[simp] theorem handed_str (b : List Nat) (st : Sg) (n : Nat) : handed (.str b) st n = some (.str b) := id rfl
@[simp] theorem handed_node (o : Bool) (k : Kn) (xs : List D) (st : Sg) (n : Nat) : handed (.node o k xs) st n = if D.ncL xs then some (.node false k (D.frzL xs)) else none := by simp [handed]
@[simp] theorem handed_cell (c : Nat) (st : Sg) (n : Nat) : handed (.cell c) st n = if c < n then some (.cell c) else (match st.m[c]? with
    | some d => if d.nc then some d.frz else none
    | none => none) := rfl
/-- a function's call -/
theorem run_f {P : Prog} (k : Nat) (f : String) (fn : Fn) (ds : List D) (m : Mem) (h : P.fn f = some fn) (hd : fn.dfl = []) (hn : fn.np = ds.length) :
    run P (k + 1) false f ds m = finO false fn.keep m.length (xss (P.cl (run P k) m.length) fn.body ⟨ds.map some ++ List.replicate (fn.nsl - fn.np) none, m⟩) := by
  unfold run
  rw [h]
  simp only [argsOf, hd, List.length_nil, Nat.sub_zero, hn, Nat.le_refl, and_self, if_true, Nat.sub_self, List.drop_nil, List.append_nil, Bool.false_eq_true, if_false]
/-! ways that meet -/
@[simp] theorem ite_ok_bl (c : Prop) [Decidable c] (a b : Bool) (s : Sg) : (if c then Rs.ok (D.bl a) s else Rs.ok (D.bl b) s) = Rs.ok (D.bl (if c then a else b)) s := by split <;> rfl
@[simp] theorem ite_ok_int (c : Prop) [Decidable c] (a b : Int) (s : Sg) : (if c then Rs.ok (D.int a) s else Rs.ok (D.int b) s) = Rs.ok (D.int (if c then a else b)) s := by split <;> rfl
@[simp] theorem ite_ok_str (c : Prop) [Decidable c] (a b : List Nat) (s : Sg) : (if c then Rs.ok (D.str a) s else Rs.ok (D.str b) s) = Rs.ok (D.str (if c then a else b)) s := by split <;> rfl
@[simp] theorem ite_ok_t (c : Prop) [Decidable c] (a b : Bool) (s : Sg) : (if c then Rs.ok a s else Rs.ok b s) = Rs.ok (if c then a else b) s := by split <;> rfl
@[simp] theorem ite_ff (c : Prop) [Decidable c] (a : Bool) : (if c then a else false) = (decide c && a) := by by_cases h : c <;> simp [h]
@[simp] theorem ite_tt (c : Prop) [Decidable c] (a : Bool) : (if c then true else a) = (decide c || a) := by by_cases h : c <;> simp [h]
@[simp] theorem ite_self' (b a : Bool) : (if b = true then a else b) = (b && a) := by cases b <;> simp
@[simp] theorem ite_self'' (b a : Bool) : (if b = true then b else a) = (b || a) := by cases b <;> simp
end VS
/-! VE2: the operations upon data, as simp takes them. -/
namespace VS
theorem idx_aux (xs : List D) (n : Nat) : ((ixI xs.length (n : Int)).bind fun j => xs[j]?) = xs[n]? := by
  unfold ixI
  rw [if_pos (by omega)]
  by_cases h : n < xs.length
  · rw [if_pos (by omega)]; simp
  · rw [if_neg (by omega)]; simp; omega
theorem idx_aux1 (xs : List D) : ((ixI xs.length (-1 : Int)).bind fun j => xs[j]?) = xs.getLast? := by
  unfold ixI
  rw [if_neg (by omega)]
  cases xs with
  | nil => simp
  | cons x r =>
    rw [if_pos (by simp only [List.length_cons]; omega), List.getLast?_eq_getElem?]
    have e : (-1 + (((x :: r).length : Nat) : Int)).toNat = (x :: r).length - 1 := by simp only [List.length_cons]; omega
    simp only [Option.bind_some, e]
theorem set_aux (xs : List D) (n : Nat) (d : D) : ((ixI xs.length (n : Int)).map fun j => D.lst true (xs.set j d)) = if n < xs.length then some (.lst true (xs.set n d)) else none := by
  unfold ixI
  rw [if_pos (by omega)]
  by_cases h : n < xs.length
  · rw [if_pos (by omega), if_pos h]; simp
  · rw [if_neg (by omega), if_neg h]; simp
@[simp] theorem tr_non  : trD .non = some false := id rfl
@[simp] theorem tr_bl (b : Bool) : trD (.bl b) = some b := id rfl
@[simp] theorem tr_int (i : Int) : trD (.int i) = some (i != 0) := id rfl
@[simp] theorem tr_str (s : List Nat) : trD (.str s) = if s.length ≤ 16777216 then some (!s.isEmpty) else none := id rfl
@[simp] theorem tr_tup (o : Bool) (xs : List D) : trD (.node o .tup xs) = some (!xs.isEmpty) := id rfl
@[simp] theorem tr_lst (o : Bool) (xs : List D) : trD (.node o .lst xs) = some (!xs.isEmpty) := id rfl
@[simp] theorem bop_add (i j : Int) : bopD .add (.int i) (.int j) = some (.int (i + j)) := id rfl
@[simp] theorem bop_sub (i j : Int) : bopD .sub (.int i) (.int j) = some (.int (i - j)) := id rfl
@[simp] theorem bop_mul (i j : Int) : bopD .mul (.int i) (.int j) = if mulOk i j then some (.int (i * j)) else none := id rfl
@[simp] theorem bop_mulL (o : Bool) (xs : List D) (k : Int) : bopD .mul (.node o .lst xs) (.int k) = if D.shL xs = true ∧ 2 ≤ k ∧ k ≤ 1000 ∧ xs.length ≤ 1000 then some (.lst true (repL k.toNat xs)) else none := id rfl
@[simp] theorem bop_mulT (xs : List D) (k : Int) : bopD .mul (.node false .tup xs) (.int k) = if D.shL xs = true ∧ xs ≠ [] ∧ 2 ≤ k ∧ k ≤ 1000 ∧ xs.length ≤ 1000 then some (.tup false (repL k.toNat xs)) else none := id rfl
@[simp] theorem repL_2 (xs : List D) : repL 2 xs = xs ++ xs := by simp [repL]
@[simp] theorem repL_3 (xs : List D) : repL 3 xs = xs ++ (xs ++ xs) := by simp [repL]
@[simp] theorem repL_4 (xs : List D) : repL 4 xs = xs ++ (xs ++ (xs ++ xs)) := by simp [repL]
@[simp] theorem repL_5 (xs : List D) : repL 5 xs = xs ++ (xs ++ (xs ++ (xs ++ xs))) := by simp [repL]
@[simp] theorem repL_6 (xs : List D) : repL 6 xs = xs ++ (xs ++ (xs ++ (xs ++ (xs ++ xs)))) := by simp [repL]
@[simp] theorem bop_fdiv (i j : Int) : bopD .fdiv (.int i) (.int j) = if divOk j then some (.int (i / j)) else none := id rfl
@[simp] theorem bop_mod (i j : Int) : bopD .mod (.int i) (.int j) = if 0 < j then some (.int (i % j)) else none := id rfl
@[simp] theorem bop_pow (i j : Int) : bopD .pow (.int i) (.int j) = if shOk i j then some (.int (i ^ j.toNat)) else none := id rfl
@[simp] theorem bop_shl (i j : Int) : bopD .shl (.int i) (.int j) = if shOk i j then some (.int (i * 2 ^ j.toNat)) else none := id rfl
@[simp] theorem bop_shr (i j : Int) : bopD .shr (.int i) (.int j) = if 0 ≤ j then some (.int (i / 2 ^ j.toNat)) else none := id rfl
@[simp] theorem bop_and (i j : Int) : bopD .and (.int i) (.int j) = some (.int (PySem.Builtin.bitAnd i j)) := id rfl
@[simp] theorem bop_or (i j : Int) : bopD .or (.int i) (.int j) = some (.int (PySem.Builtin.bitOr i j)) := id rfl
@[simp] theorem bop_xor (i j : Int) : bopD .xor (.int i) (.int j) = some (.int (PySem.Builtin.bitXor i j)) := id rfl
@[simp] theorem bop_adds (a b : List Nat) : bopD .add (.str a) (.str b) = if a.length + b.length ≤ 16777216 then some (.str (a ++ b)) else none := id rfl
@[simp] theorem bop_addl (o p : Bool) (xs ys : List D) : bopD .add (.node o .lst xs) (.node p .lst ys) = if (D.shL xs && D.shL ys) = true ∧ xs.length + ys.length ≤ 16777216 then some (.lst true (xs ++ ys)) else none := id rfl
@[simp] theorem bop_addt (xs ys : List D) : bopD .add (.node false .tup xs) (.node false .tup ys) = if (D.shL xs && D.shL ys) = true ∧ xs.length + ys.length ≤ 16777216 then some (.tup false (xs ++ ys)) else none := id rfl
@[simp] theorem aug_int (b : Bop) (i : Int) (d : D) : augD b (.int i) d = bopD b (.int i) d := id rfl
@[simp] theorem uop_neg (i : Int) : uopD .neg (.int i) = some (.int (-i)) := id rfl
@[simp] theorem uop_inv (i : Int) : uopD .inv (.int i) = some (.int (PySem.Builtin.bitNot i)) := id rfl
@[simp] theorem keyA_int (i : Int) : keyA (.int i) = some (.i i) := id rfl
@[simp] theorem keyA_str (s : List Nat) : keyA (.str s) = some (.s s) := id rfl
@[simp] theorem keyAs_nil  : keyAs [] = some [] := id rfl
@[simp] theorem keyAs_cons (x : D) (r : List D) : keyAs (x :: r) = (keyA x).bind fun k => (keyAs r).bind fun ks => some (k :: ks) := id rfl
@[simp] theorem keyT_tup (xs : List D) : keyT (.node false .tup xs) = keyAs xs := id rfl
@[simp] theorem fld_obj (o : Bool) (c : String) (ns : List String) (xs : List D) (f : String) : fldD (.node o (.obj c ns) xs) f = findF f ns xs := id rfl
@[simp] theorem findF_cons (f g : String) (gs : List String) (x : D) (xs : List D) : findF f (g :: gs) (x :: xs) = if g = f then some x else findF f gs xs := id rfl
@[simp] theorem isLst_lst (o : Bool) (xs : List D) : isLst (.node o .lst xs) = true := id rfl
@[simp] theorem idx_tup_nat (o : Bool) (xs : List D) (n : Nat) : idxD (.node o .tup xs) (.int (n : Int)) = xs[n]? := idx_aux xs n
@[simp] theorem idx_tup_0 (o : Bool) (x0 : D) (r : List D) : idxD (.node o .tup (x0 :: r)) (.int 0) = some x0 := idx_aux (x0 :: r) 0
@[simp] theorem idx_tup_1 (o : Bool) (x0 x1 : D) (r : List D) : idxD (.node o .tup (x0 :: x1 :: r)) (.int 1) = some x1 := idx_aux (x0 :: x1 :: r) 1
@[simp] theorem idx_tup_2 (o : Bool) (x0 x1 x2 : D) (r : List D) : idxD (.node o .tup (x0 :: x1 :: x2 :: r)) (.int 2) = some x2 := idx_aux (x0 :: x1 :: x2 :: r) 2
@[simp] theorem idx_tup_3 (o : Bool) (x0 x1 x2 x3 : D) (r : List D) : idxD (.node o .tup (x0 :: x1 :: x2 :: x3 :: r)) (.int 3) = some x3 := idx_aux (x0 :: x1 :: x2 :: x3 :: r) 3
@[simp] theorem idx_tup_4 (o : Bool) (x0 x1 x2 x3 x4 : D) (r : List D) : idxD (.node o .tup (x0 :: x1 :: x2 :: x3 :: x4 :: r)) (.int 4) = some x4 := idx_aux (x0 :: x1 :: x2 :: x3 :: x4 :: r) 4
@[simp] theorem idx_tup_5 (o : Bool) (x0 x1 x2 x3 x4 x5 : D) (r : List D) : idxD (.node o .tup (x0 :: x1 :: x2 :: x3 :: x4 :: x5 :: r)) (.int 5) = some x5 := idx_aux (x0 :: x1 :: x2 :: x3 :: x4 :: x5 :: r) 5
@[simp] theorem idx_tup_6 (o : Bool) (x0 x1 x2 x3 x4 x5 x6 : D) (r : List D) : idxD (.node o .tup (x0 :: x1 :: x2 :: x3 :: x4 :: x5 :: x6 :: r)) (.int 6) = some x6 := idx_aux (x0 :: x1 :: x2 :: x3 :: x4 :: x5 :: x6 :: r) 6
@[simp] theorem idx_tup_7 (o : Bool) (x0 x1 x2 x3 x4 x5 x6 x7 : D) (r : List D) : idxD (.node o .tup (x0 :: x1 :: x2 :: x3 :: x4 :: x5 :: x6 :: x7 :: r)) (.int 7) = some x7 := idx_aux (x0 :: x1 :: x2 :: x3 :: x4 :: x5 :: x6 :: x7 :: r) 7
@[simp] theorem idx_tup_8 (o : Bool) (x0 x1 x2 x3 x4 x5 x6 x7 x8 : D) (r : List D) : idxD (.node o .tup (x0 :: x1 :: x2 :: x3 :: x4 :: x5 :: x6 :: x7 :: x8 :: r)) (.int 8) = some x8 := idx_aux (x0 :: x1 :: x2 :: x3 :: x4 :: x5 :: x6 :: x7 :: x8 :: r) 8
@[simp] theorem idx_tup_9 (o : Bool) (x0 x1 x2 x3 x4 x5 x6 x7 x8 x9 : D) (r : List D) : idxD (.node o .tup (x0 :: x1 :: x2 :: x3 :: x4 :: x5 :: x6 :: x7 :: x8 :: x9 :: r)) (.int 9) = some x9 := idx_aux (x0 :: x1 :: x2 :: x3 :: x4 :: x5 :: x6 :: x7 :: x8 :: x9 :: r) 9
@[simp] theorem idx_tup_10 (o : Bool) (x0 x1 x2 x3 x4 x5 x6 x7 x8 x9 x10 : D) (r : List D) : idxD (.node o .tup (x0 :: x1 :: x2 :: x3 :: x4 :: x5 :: x6 :: x7 :: x8 :: x9 :: x10 :: r)) (.int 10) = some x10 := idx_aux (x0 :: x1 :: x2 :: x3 :: x4 :: x5 :: x6 :: x7 :: x8 :: x9 :: x10 :: r) 10
@[simp] theorem idx_tup_11 (o : Bool) (x0 x1 x2 x3 x4 x5 x6 x7 x8 x9 x10 x11 : D) (r : List D) : idxD (.node o .tup (x0 :: x1 :: x2 :: x3 :: x4 :: x5 :: x6 :: x7 :: x8 :: x9 :: x10 :: x11 :: r)) (.int 11) = some x11 := idx_aux (x0 :: x1 :: x2 :: x3 :: x4 :: x5 :: x6 :: x7 :: x8 :: x9 :: x10 :: x11 :: r) 11
@[simp] theorem idx_tup_m1 (o : Bool) (xs : List D) : idxD (.node o .tup xs) (.int (-1)) = xs.getLast? := idx_aux1 xs
@[simp] theorem idx_lst_nat (o : Bool) (xs : List D) (n : Nat) : idxD (.node o .lst xs) (.int (n : Int)) = xs[n]? := idx_aux xs n
@[simp] theorem idx_lst_0 (o : Bool) (x0 : D) (r : List D) : idxD (.node o .lst (x0 :: r)) (.int 0) = some x0 := idx_aux (x0 :: r) 0
@[simp] theorem idx_lst_1 (o : Bool) (x0 x1 : D) (r : List D) : idxD (.node o .lst (x0 :: x1 :: r)) (.int 1) = some x1 := idx_aux (x0 :: x1 :: r) 1
@[simp] theorem idx_lst_2 (o : Bool) (x0 x1 x2 : D) (r : List D) : idxD (.node o .lst (x0 :: x1 :: x2 :: r)) (.int 2) = some x2 := idx_aux (x0 :: x1 :: x2 :: r) 2
@[simp] theorem idx_lst_3 (o : Bool) (x0 x1 x2 x3 : D) (r : List D) : idxD (.node o .lst (x0 :: x1 :: x2 :: x3 :: r)) (.int 3) = some x3 := idx_aux (x0 :: x1 :: x2 :: x3 :: r) 3
@[simp] theorem idx_lst_4 (o : Bool) (x0 x1 x2 x3 x4 : D) (r : List D) : idxD (.node o .lst (x0 :: x1 :: x2 :: x3 :: x4 :: r)) (.int 4) = some x4 := idx_aux (x0 :: x1 :: x2 :: x3 :: x4 :: r) 4
@[simp] theorem idx_lst_5 (o : Bool) (x0 x1 x2 x3 x4 x5 : D) (r : List D) : idxD (.node o .lst (x0 :: x1 :: x2 :: x3 :: x4 :: x5 :: r)) (.int 5) = some x5 := idx_aux (x0 :: x1 :: x2 :: x3 :: x4 :: x5 :: r) 5
@[simp] theorem idx_lst_6 (o : Bool) (x0 x1 x2 x3 x4 x5 x6 : D) (r : List D) : idxD (.node o .lst (x0 :: x1 :: x2 :: x3 :: x4 :: x5 :: x6 :: r)) (.int 6) = some x6 := idx_aux (x0 :: x1 :: x2 :: x3 :: x4 :: x5 :: x6 :: r) 6
@[simp] theorem idx_lst_7 (o : Bool) (x0 x1 x2 x3 x4 x5 x6 x7 : D) (r : List D) : idxD (.node o .lst (x0 :: x1 :: x2 :: x3 :: x4 :: x5 :: x6 :: x7 :: r)) (.int 7) = some x7 := idx_aux (x0 :: x1 :: x2 :: x3 :: x4 :: x5 :: x6 :: x7 :: r) 7
@[simp] theorem idx_lst_8 (o : Bool) (x0 x1 x2 x3 x4 x5 x6 x7 x8 : D) (r : List D) : idxD (.node o .lst (x0 :: x1 :: x2 :: x3 :: x4 :: x5 :: x6 :: x7 :: x8 :: r)) (.int 8) = some x8 := idx_aux (x0 :: x1 :: x2 :: x3 :: x4 :: x5 :: x6 :: x7 :: x8 :: r) 8
@[simp] theorem idx_lst_9 (o : Bool) (x0 x1 x2 x3 x4 x5 x6 x7 x8 x9 : D) (r : List D) : idxD (.node o .lst (x0 :: x1 :: x2 :: x3 :: x4 :: x5 :: x6 :: x7 :: x8 :: x9 :: r)) (.int 9) = some x9 := idx_aux (x0 :: x1 :: x2 :: x3 :: x4 :: x5 :: x6 :: x7 :: x8 :: x9 :: r) 9
@[simp] theorem idx_lst_10 (o : Bool) (x0 x1 x2 x3 x4 x5 x6 x7 x8 x9 x10 : D) (r : List D) : idxD (.node o .lst (x0 :: x1 :: x2 :: x3 :: x4 :: x5 :: x6 :: x7 :: x8 :: x9 :: x10 :: r)) (.int 10) = some x10 := idx_aux (x0 :: x1 :: x2 :: x3 :: x4 :: x5 :: x6 :: x7 :: x8 :: x9 :: x10 :: r) 10
@[simp] theorem idx_lst_11 (o : Bool) (x0 x1 x2 x3 x4 x5 x6 x7 x8 x9 x10 x11 : D) (r : List D) : idxD (.node o .lst (x0 :: x1 :: x2 :: x3 :: x4 :: x5 :: x6 :: x7 :: x8 :: x9 :: x10 :: x11 :: r)) (.int 11) = some x11 := idx_aux (x0 :: x1 :: x2 :: x3 :: x4 :: x5 :: x6 :: x7 :: x8 :: x9 :: x10 :: x11 :: r) 11
@[simp] theorem idx_lst_m1 (o : Bool) (xs : List D) : idxD (.node o .lst xs) (.int (-1)) = xs.getLast? := idx_aux1 xs
@[simp] theorem idx_slst_nat (o : Bool) (xs : List D) (n : Nat) : idxD (.node o .slst xs) (.int (n : Int)) = xs[n]? := idx_aux xs n
@[simp] theorem idx_slst_0 (o : Bool) (x0 : D) (r : List D) : idxD (.node o .slst (x0 :: r)) (.int 0) = some x0 := idx_aux (x0 :: r) 0
@[simp] theorem idx_slst_1 (o : Bool) (x0 x1 : D) (r : List D) : idxD (.node o .slst (x0 :: x1 :: r)) (.int 1) = some x1 := idx_aux (x0 :: x1 :: r) 1
@[simp] theorem idx_slst_2 (o : Bool) (x0 x1 x2 : D) (r : List D) : idxD (.node o .slst (x0 :: x1 :: x2 :: r)) (.int 2) = some x2 := idx_aux (x0 :: x1 :: x2 :: r) 2
@[simp] theorem idx_slst_3 (o : Bool) (x0 x1 x2 x3 : D) (r : List D) : idxD (.node o .slst (x0 :: x1 :: x2 :: x3 :: r)) (.int 3) = some x3 := idx_aux (x0 :: x1 :: x2 :: x3 :: r) 3
@[simp] theorem idx_slst_4 (o : Bool) (x0 x1 x2 x3 x4 : D) (r : List D) : idxD (.node o .slst (x0 :: x1 :: x2 :: x3 :: x4 :: r)) (.int 4) = some x4 := idx_aux (x0 :: x1 :: x2 :: x3 :: x4 :: r) 4
@[simp] theorem idx_slst_5 (o : Bool) (x0 x1 x2 x3 x4 x5 : D) (r : List D) : idxD (.node o .slst (x0 :: x1 :: x2 :: x3 :: x4 :: x5 :: r)) (.int 5) = some x5 := idx_aux (x0 :: x1 :: x2 :: x3 :: x4 :: x5 :: r) 5
@[simp] theorem idx_slst_6 (o : Bool) (x0 x1 x2 x3 x4 x5 x6 : D) (r : List D) : idxD (.node o .slst (x0 :: x1 :: x2 :: x3 :: x4 :: x5 :: x6 :: r)) (.int 6) = some x6 := idx_aux (x0 :: x1 :: x2 :: x3 :: x4 :: x5 :: x6 :: r) 6
@[simp] theorem idx_slst_7 (o : Bool) (x0 x1 x2 x3 x4 x5 x6 x7 : D) (r : List D) : idxD (.node o .slst (x0 :: x1 :: x2 :: x3 :: x4 :: x5 :: x6 :: x7 :: r)) (.int 7) = some x7 := idx_aux (x0 :: x1 :: x2 :: x3 :: x4 :: x5 :: x6 :: x7 :: r) 7
@[simp] theorem idx_slst_8 (o : Bool) (x0 x1 x2 x3 x4 x5 x6 x7 x8 : D) (r : List D) : idxD (.node o .slst (x0 :: x1 :: x2 :: x3 :: x4 :: x5 :: x6 :: x7 :: x8 :: r)) (.int 8) = some x8 := idx_aux (x0 :: x1 :: x2 :: x3 :: x4 :: x5 :: x6 :: x7 :: x8 :: r) 8
@[simp] theorem idx_slst_9 (o : Bool) (x0 x1 x2 x3 x4 x5 x6 x7 x8 x9 : D) (r : List D) : idxD (.node o .slst (x0 :: x1 :: x2 :: x3 :: x4 :: x5 :: x6 :: x7 :: x8 :: x9 :: r)) (.int 9) = some x9 := idx_aux (x0 :: x1 :: x2 :: x3 :: x4 :: x5 :: x6 :: x7 :: x8 :: x9 :: r) 9
@[simp] theorem idx_slst_10 (o : Bool) (x0 x1 x2 x3 x4 x5 x6 x7 x8 x9 x10 : D) (r : List D) : idxD (.node o .slst (x0 :: x1 :: x2 :: x3 :: x4 :: x5 :: x6 :: x7 :: x8 :: x9 :: x10 :: r)) (.int 10) = some x10 := idx_aux (x0 :: x1 :: x2 :: x3 :: x4 :: x5 :: x6 :: x7 :: x8 :: x9 :: x10 :: r) 10
@[simp] theorem idx_slst_11 (o : Bool) (x0 x1 x2 x3 x4 x5 x6 x7 x8 x9 x10 x11 : D) (r : List D) : idxD (.node o .slst (x0 :: x1 :: x2 :: x3 :: x4 :: x5 :: x6 :: x7 :: x8 :: x9 :: x10 :: x11 :: r)) (.int 11) = some x11 := idx_aux (x0 :: x1 :: x2 :: x3 :: x4 :: x5 :: x6 :: x7 :: x8 :: x9 :: x10 :: x11 :: r) 11
@[simp] theorem idx_slst_m1 (o : Bool) (xs : List D) : idxD (.node o .slst xs) (.int (-1)) = xs.getLast? := idx_aux1 xs
@[simp] theorem set_lst_nat (xs : List D) (n : Nat) (d : D) : setD (.node true .lst xs) (.int (n : Int)) d = if n < xs.length then some (.lst true (xs.set n d)) else none := set_aux xs n d
@[simp] theorem set_lst_0 (x0 : D) (r : List D) (d : D) : setD (.node true .lst (x0 :: r)) (.int 0) d = some (.lst true (d :: r)) := (set_aux (x0 :: r) 0 d).trans (if_pos (by simp only [List.length_cons]; omega))
@[simp] theorem set_lst_1 (x0 x1 : D) (r : List D) (d : D) : setD (.node true .lst (x0 :: x1 :: r)) (.int 1) d = some (.lst true (x0 :: d :: r)) := (set_aux (x0 :: x1 :: r) 1 d).trans (if_pos (by simp only [List.length_cons]; omega))
@[simp] theorem set_lst_2 (x0 x1 x2 : D) (r : List D) (d : D) : setD (.node true .lst (x0 :: x1 :: x2 :: r)) (.int 2) d = some (.lst true (x0 :: x1 :: d :: r)) := (set_aux (x0 :: x1 :: x2 :: r) 2 d).trans (if_pos (by simp only [List.length_cons]; omega))
@[simp] theorem set_lst_3 (x0 x1 x2 x3 : D) (r : List D) (d : D) : setD (.node true .lst (x0 :: x1 :: x2 :: x3 :: r)) (.int 3) d = some (.lst true (x0 :: x1 :: x2 :: d :: r)) := (set_aux (x0 :: x1 :: x2 :: x3 :: r) 3 d).trans (if_pos (by simp only [List.length_cons]; omega))
@[simp] theorem set_lst_4 (x0 x1 x2 x3 x4 : D) (r : List D) (d : D) : setD (.node true .lst (x0 :: x1 :: x2 :: x3 :: x4 :: r)) (.int 4) d = some (.lst true (x0 :: x1 :: x2 :: x3 :: d :: r)) := (set_aux (x0 :: x1 :: x2 :: x3 :: x4 :: r) 4 d).trans (if_pos (by simp only [List.length_cons]; omega))
@[simp] theorem set_lst_5 (x0 x1 x2 x3 x4 x5 : D) (r : List D) (d : D) : setD (.node true .lst (x0 :: x1 :: x2 :: x3 :: x4 :: x5 :: r)) (.int 5) d = some (.lst true (x0 :: x1 :: x2 :: x3 :: x4 :: d :: r)) := (set_aux (x0 :: x1 :: x2 :: x3 :: x4 :: x5 :: r) 5 d).trans (if_pos (by simp only [List.length_cons]; omega))
@[simp] theorem cop_lt (i j : Int) : copD .lt (.int i) (.int j) = some (decide (i < j)) := id rfl
@[simp] theorem cop_le (i j : Int) : copD .le (.int i) (.int j) = some (decide (i ≤ j)) := id rfl
@[simp] theorem cop_gt (i j : Int) : copD .gt (.int i) (.int j) = some (decide (j < i)) := id rfl
@[simp] theorem cop_ge (i j : Int) : copD .ge (.int i) (.int j) = some (decide (j ≤ i)) := id rfl
@[simp] theorem cop_lt_s (a b : List Nat) : copD .lt (.str a) (.str b) = some (ltL a b) := id rfl
@[simp] theorem cop_le_s (a b : List Nat) : copD .le (.str a) (.str b) = some (!ltL b a) := id rfl
@[simp] theorem cop_gt_s (a b : List Nat) : copD .gt (.str a) (.str b) = some (ltL b a) := id rfl
@[simp] theorem cop_ge_s (a b : List Nat) : copD .ge (.str a) (.str b) = some (!ltL a b) := id rfl
@[simp] theorem cop_eq (a b : D) : copD .eq a b = if (D.okE 30 a && D.okE 30 b) = true then some (D.eqD a b) else copX a b := id rfl
@[simp] theorem cop_ne (a b : D) : copD .ne a b = if unK a b = true then some true else if (D.okE 30 a && D.okE 30 b) = true then some (!D.eqD a b) else copY a b := id rfl
@[simp] theorem cop_is_nn  : copD .isN .non .non = some true := id rfl
@[simp] theorem cop_nis_nn  : copD .notN .non .non = some false := id rfl
@[simp] theorem cop_is_bb (a b : Bool) : copD .isN (.bl a) (.bl b) = some (decide (a = b)) := id rfl
@[simp] theorem cop_nis_bb (a b : Bool) : copD .notN (.bl a) (.bl b) = some (!decide (a = b)) := id rfl
@[simp] theorem cop_is_bl (b : Bool) : copD .isN (.bl b) .non = some false := id rfl
@[simp] theorem cop_nis_bl (b : Bool) : copD .notN (.bl b) .non = some true := id rfl
@[simp] theorem cop_is_int (i : Int) : copD .isN (.int i) .non = some false := id rfl
@[simp] theorem cop_nis_int (i : Int) : copD .notN (.int i) .non = some true := id rfl
@[simp] theorem cop_is_str (s : List Nat) : copD .isN (.str s) .non = some false := id rfl
@[simp] theorem cop_nis_str (s : List Nat) : copD .notN (.str s) .non = some true := id rfl
@[simp] theorem cop_is_node (o : Bool) (k : Kn) (xs : List D) : copD .isN (.node o k xs) .non = some false := id rfl
@[simp] theorem cop_nis_node (o : Bool) (k : Kn) (xs : List D) : copD .notN (.node o k xs) .non = some true := id rfl
@[simp] theorem cop_in_tup (x : D) (o : Bool) (xs : List D) : copD .in_ x (.node o .tup xs) = if (D.okE 30 x && D.okEL 30 xs) = true then some (memL x xs) else none := by cases x <;> rfl
@[simp] theorem cop_nin_tup (x : D) (o : Bool) (xs : List D) : copD .notIn x (.node o .tup xs) = if (D.okE 30 x && D.okEL 30 xs) = true then some (!memL x xs) else none := by cases x <;> rfl
@[simp] theorem cop_in_lst (x : D) (o : Bool) (xs : List D) : copD .in_ x (.node o .lst xs) = if (D.okE 30 x && D.okEL 30 xs) = true then some (memL x xs) else none := by cases x <;> rfl
@[simp] theorem cop_nin_lst (x : D) (o : Bool) (xs : List D) : copD .notIn x (.node o .lst xs) = if (D.okE 30 x && D.okEL 30 xs) = true then some (!memL x xs) else none := by cases x <;> rfl
@[simp] theorem cop_in_s (c : Nat) (s : List Nat) : copD .in_ (.str [c]) (.str s) = some (decide (c ∈ s)) := id rfl
@[simp] theorem cop_nin_s (c : Nat) (s : List Nat) : copD .notIn (.str [c]) (.str s) = some (!decide (c ∈ s)) := id rfl
@[simp] theorem cop_in_dK (x : D) (o : Bool) (ks : List KA) (xs : List D) : copD .in_ x (.node o (.dK ks) xs) = (keyA x).map fun k => (findK k ks xs).isSome := by cases x <;> rfl
@[simp] theorem cop_nin_dK (x : D) (o : Bool) (ks : List KA) (xs : List D) : copD .notIn x (.node o (.dK ks) xs) = (keyA x).map fun k => !(findK k ks xs).isSome := by cases x <;> rfl
@[simp] theorem cop_in_dT (x : D) (o : Bool) (ks : List (List KA)) (xs : List D) : copD .in_ x (.node o (.dT ks) xs) = (keyT x).map fun k => (findK k ks xs).isSome := by cases x <;> rfl
@[simp] theorem cop_nin_dT (x : D) (o : Bool) (ks : List (List KA)) (xs : List D) : copD .notIn x (.node o (.dT ks) xs) = (keyT x).map fun k => !(findK k ks xs).isSome := by cases x <;> rfl
@[simp] theorem okE_non (n : Nat)  : D.okE n (.non) = true := by cases n <;> simp [D.okE]
@[simp] theorem okE_bl (n : Nat) (b : Bool) : D.okE n (.bl b) = true := by cases n <;> simp [D.okE]
@[simp] theorem okE_int (n : Nat) (i : Int) : D.okE n (.int i) = true := by cases n <;> simp [D.okE]
@[simp] theorem okE_str (n : Nat) (s : List Nat) : D.okE n (.str s) = true := by cases n <;> simp [D.okE]
@[simp] theorem okE_tup (n : Nat) (o : Bool) (xs : List D) : D.okE (n + 1) (.node o .tup xs) = D.okEL n xs := by simp [D.okE]
@[simp] theorem okE_lst (n : Nat) (o : Bool) (xs : List D) : D.okE (n + 1) (.node o .lst xs) = D.okEL n xs := by simp [D.okE]
@[simp] theorem okE_dK0 (n : Nat) (o : Bool) : D.okE n (.node o (.dK []) []) = true := by cases n <;> simp [D.okE]
@[simp] theorem okEL_nil (n : Nat) : D.okEL n [] = true := by simp [D.okEL]
@[simp] theorem okEL_cons (n : Nat) (x : D) (r : List D) : D.okEL n (x :: r) = (D.okE n x && D.okEL n r) := by simp [D.okEL]
@[simp] theorem eqD_dK_non (o : Bool) (ks : List KA) (xs : List D)  : D.eqD (.node o (.dK ks) xs) (.non) = false := by simp [D.eqD]
@[simp] theorem eqD_non_dK (o : Bool) (ks : List KA) (xs : List D)  : D.eqD (.non) (.node o (.dK ks) xs) = false := by simp [D.eqD]
@[simp] theorem eqD_dK_bl (o : Bool) (ks : List KA) (xs : List D) (b : Bool) : D.eqD (.node o (.dK ks) xs) (.bl b) = false := by simp [D.eqD]
@[simp] theorem eqD_bl_dK (o : Bool) (ks : List KA) (xs : List D) (b : Bool) : D.eqD (.bl b) (.node o (.dK ks) xs) = false := by simp [D.eqD]
@[simp] theorem eqD_dK_int (o : Bool) (ks : List KA) (xs : List D) (i : Int) : D.eqD (.node o (.dK ks) xs) (.int i) = false := by simp [D.eqD]
@[simp] theorem eqD_int_dK (o : Bool) (ks : List KA) (xs : List D) (i : Int) : D.eqD (.int i) (.node o (.dK ks) xs) = false := by simp [D.eqD]
@[simp] theorem eqD_dK_str (o : Bool) (ks : List KA) (xs : List D) (t : List Nat) : D.eqD (.node o (.dK ks) xs) (.str t) = false := by simp [D.eqD]
@[simp] theorem eqD_str_dK (o : Bool) (ks : List KA) (xs : List D) (t : List Nat) : D.eqD (.str t) (.node o (.dK ks) xs) = false := by simp [D.eqD]
@[simp] theorem eqD_dK_tup (o : Bool) (ks : List KA) (xs : List D) (q : Bool) (ys : List D) : D.eqD (.node o (.dK ks) xs) (.node q .tup ys) = false := by simp [D.eqD]
@[simp] theorem eqD_tup_dK (o : Bool) (ks : List KA) (xs : List D) (q : Bool) (ys : List D) : D.eqD (.node q .tup ys) (.node o (.dK ks) xs) = false := by simp [D.eqD]
@[simp] theorem eqD_dK_lst (o : Bool) (ks : List KA) (xs : List D) (q : Bool) (ys : List D) : D.eqD (.node o (.dK ks) xs) (.node q .lst ys) = false := by simp [D.eqD]
@[simp] theorem eqD_lst_dK (o : Bool) (ks : List KA) (xs : List D) (q : Bool) (ys : List D) : D.eqD (.node q .lst ys) (.node o (.dK ks) xs) = false := by simp [D.eqD]
@[simp] theorem eqD_dK_dK (o p : Bool) (ks js : List KA) (xs ys : List D) : D.eqD (.node o (.dK ks) xs) (.node p (.dK js) ys) = (ks.isEmpty && js.isEmpty) := by simp [D.eqD]
@[simp] theorem eqD_non_non   : D.eqD (.non) (.non) = true := by simp [D.eqD]
@[simp] theorem eqD_non_bl  (b : Bool) : D.eqD (.non) (.bl b) = false := by simp [D.eqD]
@[simp] theorem eqD_non_int  (j : Int) : D.eqD (.non) (.int j) = false := by simp [D.eqD]
@[simp] theorem eqD_non_str  (t : List Nat) : D.eqD (.non) (.str t) = false := by simp [D.eqD]
@[simp] theorem eqD_non_tup  (p : Bool) (ys : List D) : D.eqD (.non) (.node p .tup ys) = false := by simp [D.eqD]
@[simp] theorem eqD_non_lst  (p : Bool) (ys : List D) : D.eqD (.non) (.node p .lst ys) = false := by simp [D.eqD]
@[simp] theorem eqD_bl_non (a : Bool)  : D.eqD (.bl a) (.non) = false := by simp [D.eqD]
@[simp] theorem eqD_bl_bl (a : Bool) (b : Bool) : D.eqD (.bl a) (.bl b) = (a == b) := by simp [D.eqD]
@[simp] theorem eqD_bl_int (a : Bool) (j : Int) : D.eqD (.bl a) (.int j) = decide (b2i a = j) := by simp [D.eqD]
@[simp] theorem eqD_bl_str (a : Bool) (t : List Nat) : D.eqD (.bl a) (.str t) = false := by simp [D.eqD]
@[simp] theorem eqD_bl_tup (a : Bool) (p : Bool) (ys : List D) : D.eqD (.bl a) (.node p .tup ys) = false := by simp [D.eqD]
@[simp] theorem eqD_bl_lst (a : Bool) (p : Bool) (ys : List D) : D.eqD (.bl a) (.node p .lst ys) = false := by simp [D.eqD]
@[simp] theorem eqD_int_non (i : Int)  : D.eqD (.int i) (.non) = false := by simp [D.eqD]
@[simp] theorem eqD_int_bl (i : Int) (b : Bool) : D.eqD (.int i) (.bl b) = decide (i = b2i b) := by simp [D.eqD]
@[simp] theorem eqD_int_int (i : Int) (j : Int) : D.eqD (.int i) (.int j) = decide (i = j) := by simp [D.eqD]
@[simp] theorem eqD_int_str (i : Int) (t : List Nat) : D.eqD (.int i) (.str t) = false := by simp [D.eqD]
@[simp] theorem eqD_int_tup (i : Int) (p : Bool) (ys : List D) : D.eqD (.int i) (.node p .tup ys) = false := by simp [D.eqD]
@[simp] theorem eqD_int_lst (i : Int) (p : Bool) (ys : List D) : D.eqD (.int i) (.node p .lst ys) = false := by simp [D.eqD]
@[simp] theorem eqD_str_non (s : List Nat)  : D.eqD (.str s) (.non) = false := by simp [D.eqD]
@[simp] theorem eqD_str_bl (s : List Nat) (b : Bool) : D.eqD (.str s) (.bl b) = false := by simp [D.eqD]
@[simp] theorem eqD_str_int (s : List Nat) (j : Int) : D.eqD (.str s) (.int j) = false := by simp [D.eqD]
@[simp] theorem eqD_str_str (s : List Nat) (t : List Nat) : D.eqD (.str s) (.str t) = decide (s = t) := by simp [D.eqD]
@[simp] theorem eqD_str_tup (s : List Nat) (p : Bool) (ys : List D) : D.eqD (.str s) (.node p .tup ys) = false := by simp [D.eqD]
@[simp] theorem eqD_str_lst (s : List Nat) (p : Bool) (ys : List D) : D.eqD (.str s) (.node p .lst ys) = false := by simp [D.eqD]
@[simp] theorem eqD_tup_non (o : Bool) (xs : List D)  : D.eqD (.node o .tup xs) (.non) = false := by simp [D.eqD]
@[simp] theorem eqD_tup_bl (o : Bool) (xs : List D) (b : Bool) : D.eqD (.node o .tup xs) (.bl b) = false := by simp [D.eqD]
@[simp] theorem eqD_tup_int (o : Bool) (xs : List D) (j : Int) : D.eqD (.node o .tup xs) (.int j) = false := by simp [D.eqD]
@[simp] theorem eqD_tup_str (o : Bool) (xs : List D) (t : List Nat) : D.eqD (.node o .tup xs) (.str t) = false := by simp [D.eqD]
@[simp] theorem eqD_tup_tup (o : Bool) (xs : List D) (p : Bool) (ys : List D) : D.eqD (.node o .tup xs) (.node p .tup ys) = D.eqL xs ys := by simp [D.eqD]
@[simp] theorem eqD_tup_lst (o : Bool) (xs : List D) (p : Bool) (ys : List D) : D.eqD (.node o .tup xs) (.node p .lst ys) = false := by simp [D.eqD]
@[simp] theorem eqD_lst_non (o : Bool) (xs : List D)  : D.eqD (.node o .lst xs) (.non) = false := by simp [D.eqD]
@[simp] theorem eqD_lst_bl (o : Bool) (xs : List D) (b : Bool) : D.eqD (.node o .lst xs) (.bl b) = false := by simp [D.eqD]
@[simp] theorem eqD_lst_int (o : Bool) (xs : List D) (j : Int) : D.eqD (.node o .lst xs) (.int j) = false := by simp [D.eqD]
@[simp] theorem eqD_lst_str (o : Bool) (xs : List D) (t : List Nat) : D.eqD (.node o .lst xs) (.str t) = false := by simp [D.eqD]
@[simp] theorem eqD_lst_tup (o : Bool) (xs : List D) (p : Bool) (ys : List D) : D.eqD (.node o .lst xs) (.node p .tup ys) = false := by simp [D.eqD]
@[simp] theorem eqD_lst_lst (o : Bool) (xs : List D) (p : Bool) (ys : List D) : D.eqD (.node o .lst xs) (.node p .lst ys) = D.eqL xs ys := by simp [D.eqD]
@[simp] theorem eqL_nn  : D.eqL [] [] = true := by simp [D.eqL]
@[simp] theorem eqL_cc (x y : D) (r s : List D) : D.eqL (x :: r) (y :: s) = (D.eqD x y && D.eqL r s) := by simp [D.eqL]
@[simp] theorem eqL_nc (x : D) (r : List D) : D.eqL [] (x :: r) = false := by simp [D.eqL]
@[simp] theorem eqL_cn (x : D) (r : List D) : D.eqL (x :: r) [] = false := by simp [D.eqL]
@[simp] theorem memL_nil (x : D) : memL x [] = false := id rfl
@[simp] theorem memL_cons (x y : D) (r : List D) : memL x (y :: r) = (D.eqD y x || memL x r) := id rfl
@[simp] theorem unK_non  (y : D) : unK (.non) y = false := id rfl
@[simp] theorem unK_bl (b : Bool) (y : D) : unK (.bl b) y = false := id rfl
@[simp] theorem unK_int (i : Int) (y : D) : unK (.int i) y = false := id rfl
@[simp] theorem unK_str (s : List Nat) (y : D) : unK (.str s) y = false := id rfl
@[simp] theorem unK_cell (n : Nat) (y : D) : unK (.cell n) y = false := id rfl
@[simp] theorem unK_tup (o : Bool) (xs : List D)  (y : D) : unK (.node o (.tup) xs) y = false := id rfl
@[simp] theorem unK_lst (o : Bool) (xs : List D)  (y : D) : unK (.node o (.lst) xs) y = false := id rfl
@[simp] theorem unK_slst (o : Bool) (xs : List D)  (y : D) : unK (.node o (.slst) xs) y = false := id rfl
@[simp] theorem unK_dT (o : Bool) (xs : List D) (ks : List (List KA)) (y : D) : unK (.node o (.dT ks) xs) y = false := id rfl
@[simp] theorem unK_obj (o : Bool) (xs : List D) (c : String) (ns : List String) (y : D) : unK (.node o (.obj c ns) xs) y = false := id rfl
@[simp] theorem unK_dK (o : Bool) (ks : List KA) (xs : List D) (s : List Nat) : unK (.node o (.dK ks) xs) (.str s) = true := id rfl
@[simp] theorem unK_dK_non (o : Bool) (ks : List KA) (xs : List D)  : unK (.node o (.dK ks) xs) (.non) = false := id rfl
@[simp] theorem unK_dK_bl (o : Bool) (ks : List KA) (xs : List D) (b : Bool) : unK (.node o (.dK ks) xs) (.bl b) = false := id rfl
@[simp] theorem unK_dK_int (o : Bool) (ks : List KA) (xs : List D) (i : Int) : unK (.node o (.dK ks) xs) (.int i) = false := id rfl
@[simp] theorem unK_dK_node (o : Bool) (ks : List KA) (xs : List D) (p : Bool) (k : Kn) (ys : List D) : unK (.node o (.dK ks) xs) (.node p k ys) = false := id rfl
@[simp] theorem len_s (s : List Nat) : bltD .len [.str s] = if s.length ≤ 16777216 then some (.int s.length) else none := id rfl
@[simp] theorem len_tup (o : Bool) (xs : List D) : bltD .len [.node o .tup xs] = some (.int xs.length) := id rfl
@[simp] theorem len_lst (o : Bool) (xs : List D) : bltD .len [.node o .lst xs] = some (.int xs.length) := id rfl
@[simp] theorem len_slst (o : Bool) (xs : List D) : bltD .len [.node o .slst xs] = some (.int xs.length) := id rfl
@[simp] theorem blt_min2 (i j : Int) : bltD .min2 [.int i, .int j] = some (.int (if j < i then j else i)) := id rfl
@[simp] theorem blt_max2 (i j : Int) : bltD .max2 [.int i, .int j] = some (.int (if j > i then j else i)) := id rfl
@[simp] theorem blt_sum (o : Bool) (xs : List D) : bltD .sum [.node o .lst xs] = (ints? xs).map fun ns => .int ns.sum := id rfl
@[simp] theorem blt_all (o : Bool) (xs : List D) : bltD .all [.node o .lst xs] = (bls? xs).map fun bs => .bl (bs.all id) := id rfl
@[simp] theorem blt_any (o : Bool) (xs : List D) : bltD .any [.node o .lst xs] = (bls? xs).map fun bs => .bl (bs.any id) := id rfl
@[simp] theorem blt_int_i (i : Int) : bltD .int1 [.int i] = some (.int i) := id rfl
@[simp] theorem blt_int_b (b : Bool) : bltD .int1 [.bl b] = some (.int (b2i b)) := id rfl
@[simp] theorem blt_bool (b : Bool) : bltD .bool1 [.bl b] = some (.bl b) := id rfl
@[simp] theorem blt_list_l (o : Bool) (xs : List D) : bltD .list1 [.node o .lst xs] = if D.shL xs then some (.lst true xs) else none := id rfl
@[simp] theorem blt_list_t (o : Bool) (xs : List D) : bltD .list1 [.node o .tup xs] = if D.shL xs then some (.lst true xs) else none := id rfl
@[simp] theorem blt_tuple_l (o : Bool) (xs : List D) : bltD .tuple1 [.node o .lst xs] = if D.shL xs then some (.tup false xs) else none := id rfl
@[simp] theorem blt_tuple_t (xs : List D) : bltD .tuple1 [.node false .tup xs] = some (.tup false xs) := id rfl
@[simp] theorem ints_nil  : ints? [] = some [] := id rfl
@[simp] theorem ints_cons (i : Int) (r : List D) : ints? (.int i :: r) = (ints? r).map (i :: ·) := id rfl
@[simp] theorem ints_map (l : List (Int)) : ints? (l.map D.int) = some l := by induction l with | nil => rfl | cons x l ih => simp [ints?, ih]
@[simp] theorem bls_nil  : bls? [] = some [] := id rfl
@[simp] theorem bls_cons (i : Bool) (r : List D) : bls? (.bl i :: r) = (bls? r).map (i :: ·) := id rfl
@[simp] theorem bls_map (l : List (Bool)) : bls? (l.map D.bl) = some l := by induction l with | nil => rfl | cons x l ih => simp [bls?, ih]
@[simp] theorem strs_nil  : strs? [] = some [] := id rfl
@[simp] theorem strs_cons (i : List Nat) (r : List D) : strs? (.str i :: r) = (strs? r).map (i :: ·) := id rfl
@[simp] theorem strs_map (l : List (List Nat)) : strs? (l.map D.str) = some l := by induction l with | nil => rfl | cons x l ih => simp [strs?, ih]
@[simp] theorem mut_append (xs : List D) (d : D) : mutD .append (.node true .lst xs) [d] = if xs.length < 16777216 then some (.lst true (xs ++ [d]), .non) else none := id rfl
@[simp] theorem mut_extend (xs : List D) (o : Bool) (ys : List D) : mutD .extend (.node true .lst xs) [.node o .lst ys] = if D.shL ys = true ∧ xs.length + ys.length ≤ 16777216 then some (.lst true (xs ++ ys), .non) else none := id rfl
@[simp] theorem mut_clear (xs : List D) : mutD .clear (.node true .lst xs) [] = some (.lst true [], .non) := id rfl
@[simp] theorem isiL_nil (F : Cl) (d : D) : isiL F d [] = some false := id rfl
@[simp] theorem isiL_cons (F : Cl) (d : D) (t : Ty) (r : List Ty) : isiL F d (t :: r) = (isiD F d t).bind fun b => if b then some true else isiL F d r := id rfl
@[simp] theorem isi_non_int (F : Cl)  : isiD F (.non) .int = some false := id rfl
@[simp] theorem isi_non_bool (F : Cl)  : isiD F (.non) .bool = some false := id rfl
@[simp] theorem isi_non_str (F : Cl)  : isiD F (.non) .str = some false := id rfl
@[simp] theorem isi_non_list (F : Cl)  : isiD F (.non) .list = some false := id rfl
@[simp] theorem isi_non_tuple (F : Cl)  : isiD F (.non) .tuple = some false := id rfl
@[simp] theorem isi_non_dict (F : Cl)  : isiD F (.non) .dict = some false := id rfl
@[simp] theorem isi_non_cls (F : Cl)  (e : String) : isiD F (.non) (.cls e) = some false := id rfl
@[simp] theorem isi_bl_int (F : Cl) (b : Bool) : isiD F (.bl b) .int = some true := id rfl
@[simp] theorem isi_bl_bool (F : Cl) (b : Bool) : isiD F (.bl b) .bool = some true := id rfl
@[simp] theorem isi_bl_str (F : Cl) (b : Bool) : isiD F (.bl b) .str = some false := id rfl
@[simp] theorem isi_bl_list (F : Cl) (b : Bool) : isiD F (.bl b) .list = some false := id rfl
@[simp] theorem isi_bl_tuple (F : Cl) (b : Bool) : isiD F (.bl b) .tuple = some false := id rfl
@[simp] theorem isi_bl_dict (F : Cl) (b : Bool) : isiD F (.bl b) .dict = some false := id rfl
@[simp] theorem isi_bl_cls (F : Cl) (b : Bool) (e : String) : isiD F (.bl b) (.cls e) = some false := id rfl
@[simp] theorem isi_int_int (F : Cl) (i : Int) : isiD F (.int i) .int = some true := id rfl
@[simp] theorem isi_int_bool (F : Cl) (i : Int) : isiD F (.int i) .bool = some false := id rfl
@[simp] theorem isi_int_str (F : Cl) (i : Int) : isiD F (.int i) .str = some false := id rfl
@[simp] theorem isi_int_list (F : Cl) (i : Int) : isiD F (.int i) .list = some false := id rfl
@[simp] theorem isi_int_tuple (F : Cl) (i : Int) : isiD F (.int i) .tuple = some false := id rfl
@[simp] theorem isi_int_dict (F : Cl) (i : Int) : isiD F (.int i) .dict = some false := id rfl
@[simp] theorem isi_int_cls (F : Cl) (i : Int) (e : String) : isiD F (.int i) (.cls e) = some false := id rfl
@[simp] theorem isi_str_int (F : Cl) (s : List Nat) : isiD F (.str s) .int = some false := id rfl
@[simp] theorem isi_str_bool (F : Cl) (s : List Nat) : isiD F (.str s) .bool = some false := id rfl
@[simp] theorem isi_str_str (F : Cl) (s : List Nat) : isiD F (.str s) .str = some true := id rfl
@[simp] theorem isi_str_list (F : Cl) (s : List Nat) : isiD F (.str s) .list = some false := id rfl
@[simp] theorem isi_str_tuple (F : Cl) (s : List Nat) : isiD F (.str s) .tuple = some false := id rfl
@[simp] theorem isi_str_dict (F : Cl) (s : List Nat) : isiD F (.str s) .dict = some false := id rfl
@[simp] theorem isi_str_cls (F : Cl) (s : List Nat) (e : String) : isiD F (.str s) (.cls e) = some false := id rfl
@[simp] theorem isi_tup_int (F : Cl) (o : Bool) (xs : List D) : isiD F (.node o .tup xs) .int = some false := id rfl
@[simp] theorem isi_tup_bool (F : Cl) (o : Bool) (xs : List D) : isiD F (.node o .tup xs) .bool = some false := id rfl
@[simp] theorem isi_tup_str (F : Cl) (o : Bool) (xs : List D) : isiD F (.node o .tup xs) .str = some false := id rfl
@[simp] theorem isi_tup_list (F : Cl) (o : Bool) (xs : List D) : isiD F (.node o .tup xs) .list = some false := id rfl
@[simp] theorem isi_tup_tuple (F : Cl) (o : Bool) (xs : List D) : isiD F (.node o .tup xs) .tuple = some true := id rfl
@[simp] theorem isi_tup_dict (F : Cl) (o : Bool) (xs : List D) : isiD F (.node o .tup xs) .dict = some false := id rfl
@[simp] theorem isi_tup_cls (F : Cl) (o : Bool) (xs : List D) (e : String) : isiD F (.node o .tup xs) (.cls e) = some false := id rfl
@[simp] theorem isi_lst_int (F : Cl) (o : Bool) (xs : List D) : isiD F (.node o .lst xs) .int = some false := id rfl
@[simp] theorem isi_lst_bool (F : Cl) (o : Bool) (xs : List D) : isiD F (.node o .lst xs) .bool = some false := id rfl
@[simp] theorem isi_lst_str (F : Cl) (o : Bool) (xs : List D) : isiD F (.node o .lst xs) .str = some false := id rfl
@[simp] theorem isi_lst_list (F : Cl) (o : Bool) (xs : List D) : isiD F (.node o .lst xs) .list = some true := id rfl
@[simp] theorem isi_lst_tuple (F : Cl) (o : Bool) (xs : List D) : isiD F (.node o .lst xs) .tuple = some false := id rfl
@[simp] theorem isi_lst_dict (F : Cl) (o : Bool) (xs : List D) : isiD F (.node o .lst xs) .dict = some false := id rfl
@[simp] theorem isi_lst_cls (F : Cl) (o : Bool) (xs : List D) (e : String) : isiD F (.node o .lst xs) (.cls e) = some false := id rfl
@[simp] theorem isi_dK_int (F : Cl) (o : Bool) (ks : List KA) (xs : List D) : isiD F (.node o (.dK ks) xs) .int = some false := id rfl
@[simp] theorem isi_dK_bool (F : Cl) (o : Bool) (ks : List KA) (xs : List D) : isiD F (.node o (.dK ks) xs) .bool = some false := id rfl
@[simp] theorem isi_dK_str (F : Cl) (o : Bool) (ks : List KA) (xs : List D) : isiD F (.node o (.dK ks) xs) .str = some false := id rfl
@[simp] theorem isi_dK_list (F : Cl) (o : Bool) (ks : List KA) (xs : List D) : isiD F (.node o (.dK ks) xs) .list = some false := id rfl
@[simp] theorem isi_dK_tuple (F : Cl) (o : Bool) (ks : List KA) (xs : List D) : isiD F (.node o (.dK ks) xs) .tuple = some false := id rfl
@[simp] theorem isi_dK_dict (F : Cl) (o : Bool) (ks : List KA) (xs : List D) : isiD F (.node o (.dK ks) xs) .dict = some true := id rfl
@[simp] theorem isi_dK_cls (F : Cl) (o : Bool) (ks : List KA) (xs : List D) (e : String) : isiD F (.node o (.dK ks) xs) (.cls e) = some false := id rfl
@[simp] theorem isi_obj_int (F : Cl) (o : Bool) (k : String) (ns : List String) (xs : List D) : isiD F (.node o (.obj k ns) xs) .int = some false := id rfl
@[simp] theorem isi_obj_bool (F : Cl) (o : Bool) (k : String) (ns : List String) (xs : List D) : isiD F (.node o (.obj k ns) xs) .bool = some false := id rfl
@[simp] theorem isi_obj_str (F : Cl) (o : Bool) (k : String) (ns : List String) (xs : List D) : isiD F (.node o (.obj k ns) xs) .str = some false := id rfl
@[simp] theorem isi_obj_list (F : Cl) (o : Bool) (k : String) (ns : List String) (xs : List D) : isiD F (.node o (.obj k ns) xs) .list = some false := id rfl
@[simp] theorem isi_obj_tuple (F : Cl) (o : Bool) (k : String) (ns : List String) (xs : List D) : isiD F (.node o (.obj k ns) xs) .tuple = some false := id rfl
@[simp] theorem isi_obj_dict (F : Cl) (o : Bool) (k : String) (ns : List String) (xs : List D) : isiD F (.node o (.obj k ns) xs) .dict = some false := id rfl
@[simp] theorem isi_obj_cls (F : Cl) (o : Bool) (k : String) (ns : List String) (xs : List D) (e : String) : isiD F (.node o (.obj k ns) xs) (.cls e) = some (F.sub k e) := id rfl
@[simp] theorem row_tup (o : Bool) (xs : List D) : rowD (.node o .tup xs) = stay xs := id rfl
@[simp] theorem row_lst (o : Bool) (xs : List D) : rowD (.node o .lst xs) = stay xs := id rfl
@[simp] theorem row_slst (o : Bool) (xs : List D) : rowD (.node o .slst xs) = if D.shL xs then some xs else none := id rfl
@[simp] theorem row_str (s : List Nat) : rowD (.str s) = some (s.map fun c => .str [c]) := id rfl
@[simp] theorem rowE_lst (o : Bool) (xs : List D) : rowE (.node o .lst xs) = stay xs := id rfl
@[simp] theorem rowE_tup (o : Bool) (xs : List D) : rowE (.node o .tup xs) = stay xs := id rfl
@[simp] theorem rowL_lst (o : Bool) (xs : List D) : rowL (.node o .lst xs) = stay xs := id rfl
@[simp] theorem rowZ_l (o p : Bool) (xs ys : List D) : rowZ (.node o .lst xs) (.node p .lst ys) = (stay xs).bind fun xs => (stay ys).bind fun ys => some (zipL xs ys) := id rfl
@[simp] theorem rowZ_t (o p : Bool) (xs ys : List D) : rowZ (.node o .tup xs) (.node p .tup ys) = (stay xs).bind fun xs => (stay ys).bind fun ys => some (zipL xs ys) := id rfl
@[simp] theorem clamp_non (n : Nat) (d : Int) : clampI n d .non = some d.toNat := id rfl
@[simp] theorem clamp_int (n : Nat) (d i : Int) : clampI n d (.int i) = some (if i < 0 then (i + n).toNat else min i.toNat n) := id rfl
@[simp] theorem lcL_nil (f : D → Sg → Rs (Option D)) (acc : List D) (st : Sg) : lcL f [] acc st = .ok acc st := id rfl
@[simp] theorem zipL_nil (ys : List D) : zipL [] ys = [] := id rfl
@[simp] theorem zipL_cons (x y : D) (r s : List D) : zipL (x :: r) (y :: s) = .tup false [x, y] :: zipL r s := id rfl
@[simp] theorem enumL_nil (i : Int) : enumL i [] = [] := id rfl
@[simp] theorem enumL_cons (i : Int) (x : D) (r : List D) : enumL i (x :: r) = .tup false [.int i, x] :: enumL (i + 1) r := id rfl
@[simp] theorem rngL_0 (i : Int) : rngL i 0 = [] := id rfl
theorem ltL_one (a b : Nat) : ltL [a] [b] = decide (a < b) := by
  unfold ltL
  by_cases h : a < b
  · rw [decide_eq_true h, decide_eq_true]; exact List.Lex.rel h
  · rw [decide_eq_false h, decide_eq_false]; intro z; cases z with
    | rel q => exact h q
    | cons q => cases q
/-! shared data, at once -/
theorem al_of_sh : ∀ {d : D}, d.sh = true → d.al = true
  | .node o k xs, h => by simp at h ⊢; exact h.1
  | .non, _ => rfl
  | .bl _, _ => rfl
  | .int _, _ => rfl
  | .str _, _ => rfl
  | .cell _, _ => rfl
mutual
theorem nc_of_sh : ∀ {d : D}, d.sh = true → d.nc = true
  | .node o k xs, h => by simp at h ⊢; exact ncL_of_shL h.2
  | .non, _ => rfl
  | .bl _, _ => rfl
  | .int _, _ => rfl
  | .str _, _ => rfl
  | .cell _, h => by simp at h
theorem ncL_of_shL : ∀ {xs : List D}, D.shL xs = true → D.ncL xs = true
  | [], _ => rfl
  | x :: r, h => by simp at h ⊢; exact ⟨nc_of_sh h.1, ncL_of_shL h.2⟩
end
mutual
theorem frz_of_sh : ∀ {d : D}, d.sh = true → d.frz = d
  | .node o k xs, h => by simp at h ⊢; exact ⟨h.1, frzL_of_shL h.2⟩
  | .non, _ => rfl
  | .bl _, _ => rfl
  | .int _, _ => rfl
  | .str _, _ => rfl
  | .cell _, h => by simp at h
theorem frzL_of_shL : ∀ {xs : List D}, D.shL xs = true → D.frzL xs = xs
  | [], _ => rfl
  | x :: r, h => by simp at h ⊢; exact ⟨frz_of_sh h.1, frzL_of_shL h.2⟩
end
mutual
theorem bel_of_nc {n : Nat} : ∀ {d : D}, d.nc = true → d.bel n = true
  | .node o k xs, h => by simp at h ⊢; exact belL_of_ncL h
  | .non, _ => rfl
  | .bl _, _ => rfl
  | .int _, _ => rfl
  | .str _, _ => rfl
  | .cell _, h => by simp at h
theorem belL_of_ncL {n : Nat} : ∀ {xs : List D}, D.ncL xs = true → D.belL n xs = true
  | [], _ => rfl
  | x :: r, h => by simp at h ⊢; exact ⟨bel_of_nc h.1, belL_of_ncL h.2⟩
end
theorem shL_all : ∀ {xs : List D}, (∀ x ∈ xs, x.sh = true) → D.shL xs = true
  | [], _ => rfl
  | x :: r, h => by simp; exact ⟨h x (by simp), shL_all fun y hy => h y (by simp [hy])⟩
theorem shL_mem : ∀ {xs : List D}, D.shL xs = true → ∀ x ∈ xs, x.sh = true
  | x :: r, h, y, hy => by
    simp at h hy
    rcases hy with rfl | hy
    · exact h.1
    · exact shL_mem h.2 y hy
@[simp] theorem shL_append (xs ys : List D) : D.shL (xs ++ ys) = (D.shL xs && D.shL ys) := by
  induction xs with
  | nil => simp
  | cons x r ih => simp [ih, Bool.and_assoc]
@[simp] theorem ncL_append (xs ys : List D) : D.ncL (xs ++ ys) = (D.ncL xs && D.ncL ys) := by
  induction xs with
  | nil => simp
  | cons x r ih => simp [ih, Bool.and_assoc]
@[simp] theorem belL_append (n : Nat) (xs ys : List D) : D.belL n (xs ++ ys) = (D.belL n xs && D.belL n ys) := by
  induction xs with
  | nil => simp
  | cons x r ih => simp [ih, Bool.and_assoc]
@[simp] theorem frzL_append (xs ys : List D) : D.frzL (xs ++ ys) = D.frzL xs ++ D.frzL ys := by
  induction xs with
  | nil => simp
  | cons x r ih => simp [ih]
section
variable {α : Type}
theorem shL_map {f : α → D} {l : List α} (h : ∀ a ∈ l, (f a).sh = true) : D.shL (l.map f) = true := shL_all fun x hx => by
  obtain ⟨a, ha, rfl⟩ := List.mem_map.mp hx
  exact h a ha
@[simp] theorem shL_map' {f : α → D} (h : ∀ a, (f a).sh = true) (l : List α) : D.shL (l.map f) = true := shL_map fun a _ => h a
@[simp] theorem ncL_map' {f : α → D} (h : ∀ a, (f a).sh = true) (l : List α) : D.ncL (l.map f) = true := ncL_of_shL (shL_map' h l)
@[simp] theorem belL_map' {f : α → D} (h : ∀ a, (f a).sh = true) (n : Nat) (l : List α) : D.belL n (l.map f) = true := belL_of_ncL (ncL_map' h l)
@[simp] theorem frzL_map' {f : α → D} (h : ∀ a, (f a).sh = true) (l : List α) : D.frzL (l.map f) = l.map f := frzL_of_shL (shL_map' h l)
theorem stay_sh {xs : List D} (h : D.shL xs = true) : stay xs = some xs := by unfold stay; rw [if_pos h]
@[simp] theorem stay_map {f : α → D} (h : ∀ a, (f a).sh = true) (l : List α) : stay (l.map f) = some (l.map f) := stay_sh (shL_map' h l)
@[simp] theorem stay_nil : stay [] = some [] := id rfl
@[simp] theorem okEL_map {f : α → D} {n : Nat} (h : ∀ a, D.okE n (f a) = true) (l : List α) : D.okEL n (l.map f) = true := by
  induction l with
  | nil => simp
  | cons x r ih => simp [h, ih]
theorem eqL_map [DecidableEq α] {f : α → D} (h : ∀ a b, D.eqD (f a) (f b) = decide (a = b)) : ∀ (l m : List α), D.eqL (l.map f) (m.map f) = decide (l = m)
  | [], [] => by simp
  | [], _ :: _ => by simp
  | _ :: _, [] => by simp
  | a :: l, b :: m => by simp [h, eqL_map h l m]
theorem memL_map [DecidableEq α] {f : α → D} (h : ∀ a b, D.eqD (f a) (f b) = decide (a = b)) (a : α) : ∀ (l : List α), memL (f a) (l.map f) = decide (a ∈ l)
  | [] => by simp
  | b :: l => by simp [h, memL_map h a l, eq_comm]
end
end VS
/-! VE3: loops, comprehensions, by rules. -/
namespace VS
section
variable {F : Cl} {α : Type}
/-! turns that end as they begin -/
@[simp] theorem loop_nil (tg : Tg) (b : CSs) (st : Sg) : loopB F tg b [] st = .nx st := id rfl
theorem loop_cons (tg : Tg) (b : CSs) (x : D) (r : List D) (st : Sg) : loopB F tg b (x :: r) st = ((Rs.of (tgD tg x st) st).ob fun st' _ => xss F b st').bind fun st => loopB F tg b r st := rfl
/-- a loop that goes through: I is about what is left -/
theorem loop_thru {tg : Tg} {b : CSs} (I : List D → Sg → Prop) : ∀ (l : List D) (st : Sg), I l st → (∀ x r st, I (x :: r) st → ∃ st1 st2, tgD tg x st = some st1 ∧ xss F b st1 = .nx st2 ∧ I r st2) → ∃ st', loopB F tg b l st = .nx st' ∧ I [] st'
  | [], st, h, _ => ⟨st, rfl, h⟩
  | x :: r, st, h, hs => by
    obtain ⟨st1, st2, e1, e2, h2⟩ := hs x r st h
    obtain ⟨st', e, h'⟩ := loop_thru I r st2 h2 hs
    exact ⟨st', by rw [loop_cons, e1]; simp [e2, e], h'⟩
/-- a loop that may be left by a return -/
theorem loop_ret {tg : Tg} {b : CSs} (I : List D → Sg → Prop) (R : D → Sg → Prop) : ∀ (l : List D) (st : Sg), I l st → (∀ x r st, I (x :: r) st → ∃ st1, tgD tg x st = some st1 ∧ ((∃ st2, xss F b st1 = .nx st2 ∧ I r st2) ∨ ∃ d st2, xss F b st1 = .rt d st2 ∧ R d st2)) →
    (∃ st', loopB F tg b l st = .nx st' ∧ I [] st') ∨ ∃ d st', loopB F tg b l st = .rt d st' ∧ R d st'
  | [], st, h, _ => .inl ⟨st, rfl, h⟩
  | x :: r, st, h, hs => by
    obtain ⟨st1, e1, ⟨st2, e2, h2⟩ | ⟨d, st2, e2, h2⟩⟩ := hs x r st h
    · rcases loop_ret I R r st2 h2 hs with ⟨st', e, h'⟩ | ⟨d, st', e, h'⟩
      · exact .inl ⟨st', by rw [loop_cons, e1]; simp [e2, e], h'⟩
      · exact .inr ⟨d, st', by rw [loop_cons, e1]; simp [e2, e], h'⟩
    · exact .inr ⟨d, st2, by rw [loop_cons, e1]; simp [e2], h2⟩
/-- a turn of a comprehension -/
def lcT (F : Cl) (elt : CE) (cond : CE) (st : Sg) : Rs (Option D) := ((evx F cond).t st).bind fun t st => if t then ((evx F elt).v st).bind fun d st => .ok (some d) st else .ok none st
theorem lcT_eq (F : Cl) (elt : CE) (cond : CE) (st : Sg) : lcT F elt cond st = ((evx F cond).t st).bind fun t st => if t then ((evx F elt).v st).bind fun d st => .ok (some d) st else .ok none st := rfl
@[simp] theorem lcB_nil (elt : CE) (tg : Tg) (cond : CE) (own : List Nat) (acc : List D) (st : Sg) : lcB F elt tg cond own [] acc st = .ok acc st := id rfl
theorem lcB_some {elt : CE} {tg : Tg} {cond : CE} {own : List Nat} {x d : D} {r acc : List D} {st st1 st2 : Sg} (e1 : tgD tg x ⟨wipe own st.sl, st.m⟩ = some st1) (e2 : lcT F elt cond st1 = .ok (some d) st2) (h : acc.length < 16777216) :
    lcB F elt tg cond own (x :: r) acc st = lcB F elt tg cond own r (acc ++ [d]) st2 := by
  unfold lcB
  conv => lhs; unfold lcL
  rw [e1]
  show ((lcT F elt cond st1).nox.bind _) = _
  rw [e2]
  exact if_pos h
theorem lcB_none {elt : CE} {tg : Tg} {cond : CE} {own : List Nat} {x : D} {r acc : List D} {st st1 st2 : Sg} (e1 : tgD tg x ⟨wipe own st.sl, st.m⟩ = some st1) (e2 : lcT F elt cond st1 = .ok none st2) :
    lcB F elt tg cond own (x :: r) acc st = lcB F elt tg cond own r acc st2 := by
  unfold lcB
  conv => lhs; unfold lcL
  rw [e1]
  show ((lcT F elt cond st1).nox.bind _) = _
  rw [e2]
  rfl
theorem lcB_thru {elt : CE} {tg : Tg} {cond : CE} {own : List Nat} (I : List D → List D → Sg → Prop) : ∀ (l acc : List D) (st : Sg), I l acc st → acc.length + l.length ≤ 16777216 →
    (∀ x r acc st, I (x :: r) acc st → ∃ st1 st2 o, tgD tg x ⟨wipe own st.sl, st.m⟩ = some st1 ∧ lcT F elt cond st1 = .ok o st2 ∧ I r (acc ++ o.toList) st2) → ∃ ds st', lcB F elt tg cond own l acc st = .ok ds st' ∧ I [] ds st'
  | [], acc, st, h, _, _ => ⟨acc, st, rfl, h⟩
  | x :: r, acc, st, h, hl, hs => by
    obtain ⟨st1, st2, o, e1, e2, h2⟩ := hs x r acc st h
    simp only [List.length_cons] at hl
    cases o with
    | some d =>
      obtain ⟨ds, st', e, h'⟩ := lcB_thru I r (acc ++ [d]) st2 h2 (by simp only [List.length_append, List.length_cons, List.length_nil]; omega) hs
      refine ⟨ds, st', ?_, h'⟩
      rw [lcB_some e1 e2 (by omega), e]
    | none =>
      obtain ⟨ds, st', e, h'⟩ := lcB_thru I r acc st2 (by simpa using h2) (by omega) hs
      exact ⟨ds, st', by rw [lcB_none e1 e2, e], h'⟩
/-- a comprehension that changes nothing beside: each thing's own -/
theorem lcB_pure {elt : CE} {tg : Tg} {cond : CE} {own : List Nat} {m : Mem} {sl : List (Option D)} (g : D → Option D) (l : List D) (hl : l.length ≤ 16777216)
    (hs : ∀ x ∈ l, ∃ st1 sl2, tgD tg x ⟨wipe own sl, m⟩ = some st1 ∧ lcT F elt cond st1 = .ok (g x) ⟨sl2, m⟩ ∧ wipe own sl2 = wipe own sl) : ∃ sl', lcB F elt tg cond own l [] ⟨sl, m⟩ = .ok (l.filterMap g) ⟨sl', m⟩ ∧ wipe own sl' = wipe own sl := by
  obtain ⟨ds, st', e, h1, h2, h3, h4⟩ := lcB_thru (F := F) (elt := elt) (tg := tg) (cond := cond) (own := own) (fun r acc st => (∀ x ∈ r, x ∈ l) ∧ acc ++ r.filterMap g = l.filterMap g ∧ st.m = m ∧ wipe own st.sl = wipe own sl) l [] ⟨sl, m⟩ ⟨fun _ h => h, by simp, rfl, rfl⟩ (by simpa using hl) (by
    rintro x r acc ⟨sl1, m1⟩ ⟨h1, h2, h3, h4⟩
    simp only at h3 h4
    subst h3
    obtain ⟨st1, sl2, e1, e2, e3⟩ := hs x (h1 x (by simp))
    refine ⟨st1, ⟨sl2, m1⟩, g x, by rw [h4]; exact e1, e2, fun y hy => h1 y (by simp [hy]), ?_, rfl, e3⟩
    rw [← h2, List.filterMap_cons]
    cases g x <;> simp)
  obtain ⟨sl', m'⟩ := st'
  simp only at h3 h4
  subst h3
  simp only [List.filterMap_nil, List.append_nil] at h2
  exact ⟨sl', by rw [e, h2], h4⟩
theorem restore_wipe : ∀ {own : List Nat} {sl sl' : List (Option D)}, sl.length = sl'.length → wipe own sl = wipe own sl' → restore own sl sl' = sl := by
  have key : ∀ {own : List Nat} {sl : List (Option D)} (i : Nat), (wipe own sl)[i]? = if i ∈ own ∧ i < sl.length then some none else sl[i]? := by
    intro own
    induction own with
    | nil => intro sl i; simp
    | cons a r ih =>
      intro sl i
      have hl : ∀ {r : List Nat} {sl : List (Option D)}, (wipe r sl).length = sl.length := by
        intro r; induction r with
        | nil => intro sl; rfl
        | cons a r ih => intro sl; simp [ih]
      simp only [wipe_cons, List.getElem?_set, hl, ih, List.mem_cons]
      by_cases h : a = i
      · subst h
        by_cases h2 : a < sl.length
        · simp [h2]
        · simp [h2]
      · simp [h, Ne.symm h]
  have key2 : ∀ {own : List Nat} {old sl : List (Option D)} (i : Nat), old.length = sl.length → (restore own old sl)[i]? = if i ∈ own ∧ i < sl.length then some (old[i]?).join else sl[i]? := by
    intro own
    induction own with
    | nil => intro old sl i _; simp [restore]
    | cons a r ih =>
      intro old sl i h0
      have hl : ∀ {r : List Nat} {old sl : List (Option D)}, (restore r old sl).length = sl.length := by
        intro r; induction r with
        | nil => intro _ sl; rfl
        | cons a r ih => intro _ sl; simp [restore, ih]
      simp only [restore, List.getElem?_set, hl, ih _ h0, List.mem_cons]
      by_cases h : a = i
      · subst h
        by_cases h2 : a < sl.length
        · simp [h2]
        · simp [h2]
      · simp [h, Ne.symm h]
  intro own sl sl' h0 h
  apply List.ext_getElem?
  intro i
  rw [key2 i h0]
  have h1 := congrArg (fun z => z[i]?) h
  simp only [key] at h1
  by_cases hi : i ∈ own
  · by_cases hl : i < sl'.length
    · rw [if_pos ⟨hi, hl⟩, List.getElem?_eq_getElem (by omega)]; rfl
    · rw [if_neg (by simp [hl]), List.getElem?_eq_none (by omega), List.getElem?_eq_none (by omega)]
  · rw [if_neg (by simp [hi])]
    simp [hi] at h1
    exact h1.symm
theorem v_cmpr_pure {elt : CE} {tg : Tg} {it : CI} {cond : CE} {own : List Nat} {m : Mem} {sl : List (Option D)} {st0 : Sg} (g : D → Option D) (l : List D) (h0 : itD F it st0 = .ok l ⟨sl, m⟩) (ho : ownOk own sl = true) (hl : l.length ≤ 16777216)
    (hs : ∀ x ∈ l, ∃ st1 sl2, tgD tg x ⟨wipe own sl, m⟩ = some st1 ∧ lcT F elt cond st1 = .ok (g x) ⟨sl2, m⟩ ∧ wipe own sl2 = wipe own sl) :
    (evx F (.cmpr elt tg it cond own)).v st0 = .ok (.lst true (l.filterMap g)) ⟨sl, m⟩ := by
  obtain ⟨sl', e, h⟩ := lcB_pure (F := F) g l hl hs
  rw [v_cmpr, h0]
  simp only [rsb_bnd, rsb_ok, ho, if_true, e]
  rw [restore_wipe (by have := congrArg List.length h; simpa [wipe_len] using this.symm) h.symm]
end
theorem small_lt {x : Int} (h1 : -18446744073709551616 < x) (h2 : x < 18446744073709551616) : small x := by unfold small; omega
@[simp] theorem mulOk_l {x y : Int} (h1 : -18446744073709551616 < x) (h2 : x < 18446744073709551616) : mulOk x y := .inl (small_lt h1 h2)
@[simp] theorem mulOk_r {x y : Int} (h1 : -18446744073709551616 < y) (h2 : y < 18446744073709551616) : mulOk x y := .inr (.inl (small_lt h1 h2))
theorem log2_lim {n : Int} (h0 : 0 < n) (h : n < 1606938044258990275541962092341162602522202993782792835301376) : n.natAbs.log2 < 9000 := by
  have h1 : n.natAbs.log2 < 200 := (Nat.log2_lt (by omega)).mpr (by omega)
  omega
@[simp] theorem divOk_lim {n : Int} (h0 : 0 < n) (h : n < 1606938044258990275541962092341162602522202993782792835301376) : divOk n := ⟨h0, log2_lim h0 h⟩
@[simp] theorem shOk_lim {x j : Int} (h0 : 0 ≤ j) (h1 : j ≤ 1000000) (h2 : -18446744073709551616 < x) (h3 : x < 18446744073709551616) : shOk x j := ⟨h0, h1, small_lt h2 h3⟩
theorem idx_str {s : List Nat} {i : Int} (h0 : 0 ≤ i) (h1 : i < s.length) (h2 : s.length ≤ 16777216) : idxD (.str s) (.int i) = some (.str [s.getD i.toNat 0]) := by
  have e : idxD (.str s) (.int i) = if s.length ≤ LN then (ixI s.length i).bind fun j => (s[j]?).map fun c => .str [c] else none := rfl
  have h3 : i.toNat < s.length := by omega
  rw [e, if_pos (by unfold LN; omega)]
  simp [ixI, h0, h1, h3]
theorem rngL_al : ∀ (n : Nat) (i : Int), ∀ x ∈ rngL i n, x.al = true
  | 0, _, x, h => by simp [rngL] at h
  | n + 1, i, x, h => by
    simp [rngL] at h
    rcases h with rfl | h
    · rfl
    · exact rngL_al n _ x h
theorem rngL_map : ∀ (n : Nat) (a : Int), rngL a n = (List.range n).map fun (i : Nat) => D.int (a + (i : Int))
  | 0, _ => rfl
  | n + 1, a => by
    rw [List.range_succ_eq_map, List.map_cons, List.map_map, rngL, rngL_map n (a + 1)]
    congr 1
    · simp
    · apply List.map_congr_left
      intro i _
      show D.int _ = D.int _
      congr 1
      simp only [Nat.succ_eq_add_one]
      omega
theorem rngL_from0 (n : Nat) : rngL 0 n = (List.range n).map fun (i : Nat) => D.int (i : Int) := by
  rw [rngL_map]; simp
end VS
/-! VE4: bits of natural numbers, while loops, objects. -/
namespace VS
open PySem
theorem and_nat (a b : Nat) : Builtin.bitAnd (a : Int) (b : Int) = ((a &&& b : Nat) : Int) := by
  unfold Builtin.bitAnd
  rw [decide_eq_true (Int.natCast_nonneg a), decide_eq_true (Int.natCast_nonneg b)]
  rfl
theorem or_nat (a b : Nat) : Builtin.bitOr (a : Int) (b : Int) = ((a ||| b : Nat) : Int) := by
  unfold Builtin.bitOr Builtin.bitAnd
  rw [decide_eq_false (show ¬ 0 ≤ Builtin.bitNot (a : Int) by unfold Builtin.bitNot; omega), decide_eq_false (show ¬ 0 ≤ Builtin.bitNot (b : Int) by unfold Builtin.bitNot; omega)]
  have h : ∀ x : Nat, (Builtin.bitNot (Builtin.bitNot (x : Int))).toNat = x := fun x => by unfold Builtin.bitNot; omega
  show Builtin.bitNot (Builtin.bitNot (((Builtin.bitNot (Builtin.bitNot (a : Int))).toNat ||| (Builtin.bitNot (Builtin.bitNot (b : Int))).toNat : Nat) : Int)) = _
  rw [h, h]
  unfold Builtin.bitNot; omega
theorem andn_nat (a b : Nat) : Builtin.bitAnd (a : Int) (Builtin.bitNot (b : Int)) = ((a - (a &&& b) : Nat) : Int) := by
  unfold Builtin.bitAnd
  rw [decide_eq_true (Int.natCast_nonneg a), decide_eq_false (show ¬ 0 ≤ Builtin.bitNot (b : Int) by unfold Builtin.bitNot; omega)]
  have h : (Builtin.bitNot (Builtin.bitNot (b : Int))).toNat = b := by unfold Builtin.bitNot; omega
  show (a : Int) - (((a : Int).toNat &&& (Builtin.bitNot (Builtin.bitNot (b : Int))).toNat : Nat) : Int) = _
  rw [h, Int.toNat_natCast]
  have : a &&& b ≤ a := Nat.and_le_left
  omega
@[simp] theorem and_1 (a : Nat) : Builtin.bitAnd (a : Int) 1 = ((a % 2 : Nat) : Int) := by
  have := and_nat a 1
  rw [show ((1 : Nat) : Int) = 1 from rfl] at this
  rw [this, Nat.and_one_is_mod]
section
variable (F : Cl)
theorem whl_succ (c : CE) (b : CSs) (n : Nat) (st : Sg) : whlB F c b (n + 1) st = ((evx F c).t st).ob fun t st => if t then (xss F b st).bind fun st => whlB F c b n st else .nx st := rfl
@[simp] theorem v_mak (k : String) (es : CEs) (st : Sg) : (evx F (.mak k es)).v st = (evv F es st).bind fun ds st => (mkR F k ds st.m).rs st := id rfl
@[simp] theorem v_met (o : CE) (m : String) (es : CEs) (st : Sg) : (evx F (.met o m es)).v st = ((evx F o).v st).bind fun x st => (Rs.of (clsD m (drf st.m x)) st).bind fun c st => (Rs.of (F.meth c m) st).bind fun f st => (evv F es st).bind fun ds st => (F.fn false f (x :: ds) st.m).rs st := id rfl
@[simp] theorem v_xmk (k : String) (es : CEs) (st : Sg) : (evx F (.xmk k es)).v st = (evv F es st).bind fun ds st => xmkR F k ds st := id rfl
@[simp] theorem t_xmk (k : String) (es : CEs) (st : Sg) : (evx F (.xmk k es)).t st = ((evx F (.xmk k es)).v st).bind fun d st => Rs.of (trD (drf st.m d)) st := id rfl
@[simp] theorem v_scm (c m : String) (es : CEs) (st : Sg) : (evx F (.scm c m es)).v st = (Rs.of (F.meth c m) st).bind fun f st => (evv F es st).bind fun ds st => (F.fn false f ds st.m).rs st := id rfl
@[simp] theorem t_mak (k : String) (es : CEs) (st : Sg) : (evx F (.mak k es)).t st = ((evx F (.mak k es)).v st).bind fun d st => Rs.of (trD (drf st.m d)) st := id rfl
@[simp] theorem t_met (o : CE) (m : String) (es : CEs) (st : Sg) : (evx F (.met o m es)).t st = ((evx F (.met o m es)).v st).bind fun d st => Rs.of (trD (drf st.m d)) st := id rfl
@[simp] theorem v_bm1 (b : Bmt) (o a : CE) (st : Sg) : (evx F (.bm1 b o a)).v st = (two (o.isNm || (o.isPk && a.isPk)) (fun st => (pk F o st).bind (rcvO b st.m)) (fun st => ((evx F o).v st).bind fun x st => Rs.of (rcvO b st.m x) st) (opd a.isPk (pk F a) (evx F a).v) st).bind fun p st => Rs.of (bmtD b [drf st.m p.1, drf st.m p.2]) st := id rfl
def slcP (p : D × D) (st : Sg) : Rs D := match p.2 with
  | .node _ _ [l, h] => Rs.of (slcD (drf st.m p.1) l h) st
  | _ => .bad
@[simp] theorem slcP_eq (x l h : D) (o : Bool) (k : Kn) (st : Sg) : slcP (x, .node o k [l, h]) st = Rs.of (slcD (drf st.m x) l h) st := id rfl
@[simp] theorem v_slc (a lo hi : CE) (st : Sg) : (evx F (.slc a lo hi)).v st = (two a.isNm (pk F a) (evx F a).v (fun st => (bdR (isAbs lo) (opd lo.isPk (pk F lo) (evx F lo).v) st).bind fun l st => (bdR (isAbs hi) (opd hi.isPk (pk F hi) (evx F hi).v) st).bind fun h st => .ok (.tup true [l, h]) st) st).bind slcP := id rfl
@[simp] theorem t_slc (a lo hi : CE) (st : Sg) : (evx F (.slc a lo hi)).t st = ((evx F (.slc a lo hi)).v st).bind fun d st => Rs.of (trD (drf st.m d)) st := id rfl
@[simp] theorem bdR_t (v : Sg → Rs D) (st : Sg) : bdR true v st = .ok .non st := id rfl
@[simp] theorem bdR_f (v : Sg → Rs D) (st : Sg) : bdR false v st = (v st).bind fun d st => Rs.of (intD d) st := id rfl
@[simp] theorem intD_int (i : Int) : intD (.int i) = some (.int i) := id rfl
@[simp] theorem isAbs_non : isAbs (.cn .non) = true := id rfl
@[simp] theorem isAbs_int (i : Int) : isAbs (.cn (.int i)) = false := id rfl
@[simp] theorem isAbs_nm (i : Nat) (m : Md) : isAbs (.nm i m) = false := id rfl
@[simp] theorem isAbs_bop (o : Bop) (a b : CE) : isAbs (.bop o a b) = false := id rfl
@[simp] theorem isAbs_uop (o : Uop) (a : CE) : isAbs (.uop o a) = false := id rfl
@[simp] theorem isAbs_cal (f : String) (es : CEs) : isAbs (.cal f es) = false := id rfl
@[simp] theorem isAbs_bl1 (b : Blt) (a : CE) : isAbs (.bl1 b a) = false := id rfl
@[simp] theorem clsD_obj (m : String) (o : Bool) (c : String) (ns : List String) (xs : List D) : clsD m (.node o (.obj c ns) xs) = if m ∈ ns then none else some c := id rfl
@[simp] theorem rcvO_eq (b : Bmt) (m : Mem) (x : D) : rcvO b m x = if rcv b (drf m x) then some x else none := id rfl
@[simp] theorem rcv_join (s : List Nat) : rcv .join (.str s) = true := id rfl
@[simp] theorem slc_tup (xs : List D) (lo hi : D) : slcD (.node false .tup xs) lo hi = (clampI xs.length 0 lo).bind fun l => (clampI xs.length xs.length hi).bind fun h => if D.shL xs then some (.tup false (cut xs l h)) else none := id rfl
@[simp] theorem slc_lst (o : Bool) (xs : List D) (lo hi : D) : slcD (.node o .lst xs) lo hi = (clampI xs.length 0 lo).bind fun l => (clampI xs.length xs.length hi).bind fun h => if D.shL xs then some (.lst true (cut xs l h)) else none := by cases o <;> rfl
@[simp] theorem slc_slst (o : Bool) (xs : List D) (lo hi : D) : slcD (.node o .slst xs) lo hi = (clampI xs.length 0 lo).bind fun l => (clampI xs.length xs.length hi).bind fun h => if D.shL xs then some (.lst true (cut xs l h)) else none := by cases o <;> rfl
@[simp] theorem slc_str (s : List Nat) (lo hi : D) : slcD (.str s) lo hi = (clampI s.length 0 lo).bind fun l => (clampI s.length s.length hi).bind fun h => if s.length ≤ 16777216 then some (.str (cut s l h)) else none := id rfl
@[simp] theorem bmt_joinl (sep : List Nat) (o : Bool) (xs : List D) : bmtD .join [.str sep, .node o .lst xs] = (strs? xs).bind fun ss => if lenSum ss + ss.length * sep.length ≤ 16777216 then some (.str (joinL sep ss)) else none := id rfl
end
@[simp] theorem setF_obj (c : String) (ns : List String) (xs : List D) (f : String) (d : D) : setFD (.node true (.obj c ns) xs) f d = if ns.length < 900 then some (.obj true c (putF f d ns xs).1 (putF f d ns xs).2) else none := id rfl
@[simp] theorem putF_nil (f : String) (d : D) (xs : List D) : putF f d [] xs = ([f], [d]) := id rfl
@[simp] theorem putF_cons (f g : String) (d x : D) (gs : List String) (xs : List D) : putF f d (g :: gs) (x :: xs) = if g = f then (g :: gs, d :: xs) else (g :: (putF f d gs xs).1, x :: (putF f d gs xs).2) := id rfl
/-- a thing of a class is made -/
theorem mk_eq {F : Cl} {c f : String} {ds : List D} {m m2 : Mem} {o : D} (h1 : F.ini c = some (some f)) (h2 : F.fn false f (.cell m.length :: ds) (m ++ [.obj true c [] []]) = .ok .non m2) (h3 : m2[m.length]? = some o) (h4 : tidy m.length (m2.take m.length) = true) (h5 : o.bel m.length = true) (h6 : F.frz c = true) (h7 : o.nc = true) :
    mkR F c ds m = .ok o.frz (m2.take m.length) := by
  unfold mkR
  rw [h1]
  simp only [h2, h3, h4, h5, h6, h7, Bool.and_true, if_true]
theorem run_d {P : Prog} (k : Nat) (f : String) (fn : Fn) (ds : List D) (m : Mem) (h : P.fn f = some fn) (h1 : fn.np - fn.dfl.length ≤ ds.length) (h2 : ds.length ≤ fn.np) :
    run P (k + 1) false f ds m = finO false fn.keep m.length (xss (P.cl (run P k) m.length) fn.body ⟨(ds ++ fn.dfl.drop (ds.length - (fn.np - fn.dfl.length))).map some ++ List.replicate (fn.nsl - fn.np) none, m⟩) := by
  rw [run_args h]
  unfold argsOf
  rw [if_pos ⟨h1, h2⟩]
end VS
/-! VE5: objects made, memory's end, dicts with tuple keys, exclusive or. -/
namespace VS
open PySem
section
variable (F : Cl)
def mkO (c : String) (m m2 : Mem) : Option D → Rr
  | some o => if (tidy m.length (m2.take m.length) && o.bel m.length) = true then (if F.frz c then (if o.nc then .ok o.frz (m2.take m.length) else .bad) else .ok o (m2.take m.length)) else .bad
  | none => .bad
def mkF (c : String) (m : Mem) : Rr → Rr
  | .ok .non m2 => mkO F c m m2 m2[m.length]?
  | .ex x m2 => if tidy m.length (m2.take m.length) then .ex x (m2.take m.length) else .bad
  | _ => .bad
def mkI (c : String) (ds : List D) (m : Mem) : Option (Option String) → Rr
  | none => .bad
  | some none => if ds.isEmpty then .ok (.obj (!F.frz c) c [] []) m else .bad
  | some (some f) => mkF F c m (F.fn false f (.cell m.length :: ds) (m ++ [.obj true c [] []]))
theorem mkR_eq (c : String) (ds : List D) (m : Mem) : mkR F c ds m = mkI F c ds m (F.ini c) := by
  unfold mkR
  cases h : F.ini c with
  | none => rfl
  | some o =>
    cases o with
    | none => rfl
    | some f =>
      simp only [mkI]
      cases F.fn false f (.cell m.length :: ds) (m ++ [.obj true c [] []]) with
      | ok d m2 =>
        cases d with
        | non => simp only [mkF]; cases m2[m.length]? <;> rfl
        | _ => rfl
      | _ => rfl
@[simp] theorem mkI_non (c : String) (m : Mem) : mkI F c [] m (some none) = .ok (.obj (!F.frz c) c [] []) m := id rfl
@[simp] theorem mkI_some (c f : String) (ds : List D) (m : Mem) : mkI F c ds m (some (some f)) = mkF F c m (F.fn false f (.cell m.length :: ds) (m ++ [.obj true c [] []])) := id rfl
@[simp] theorem mkF_ex (c : String) (m m2 : Mem) (x : Xc) : mkF F c m (.ex x m2) = if tidy m.length (m2.take m.length) then .ex x (m2.take m.length) else .bad := id rfl
@[simp] theorem mkF_ok (c : String) (m m2 : Mem) : mkF F c m (.ok .non m2) = mkO F c m m2 m2[m.length]? := id rfl
@[simp] theorem mkO_some (c : String) (m m2 : Mem) (o : D) : mkO F c m m2 (some o) = if (tidy m.length (m2.take m.length) && o.bel m.length) = true then (if F.frz c then (if o.nc then .ok o.frz (m2.take m.length) else .bad) else .ok o (m2.take m.length)) else .bad := id rfl
end
@[simp] theorem set_last (m : Mem) (x y : D) : (m ++ [x]).set m.length y = m ++ [y] := by
  induction m with
  | nil => rfl
  | cons a r ih => simp [ih]
@[simp] theorem take_last (m : Mem) (x : D) : (m ++ [x]).take (m.length + 1) = m ++ [x] := List.take_of_length_le (by simp)
@[simp] theorem tidy_append (n : Nat) : ∀ (a b : Mem), tidy n (a ++ b) = (tidy n a && tidy n b)
  | [], _ => rfl
  | x :: r, b => by rw [List.cons_append, tidy_cons, tidy_cons, tidy_append n r b, Bool.and_assoc]
theorem bel_mono {n k : Nat} (h : n ≤ k) : ∀ {d : D}, d.bel n = true → d.bel k = true
  | .node _ _ xs, e => by
    simp only [bel_node] at *
    exact go xs e
  | .cell c, e => by simp only [bel_cell, decide_eq_true_eq] at *; omega
  | .non, _ => rfl
  | .bl _, _ => rfl
  | .int _, _ => rfl
  | .str _, _ => rfl
where go : ∀ (xs : List D), D.belL n xs = true → D.belL k xs = true
  | [], _ => rfl
  | x :: r, e => by
    simp only [belL_cons, Bool.and_eq_true] at *
    exact ⟨bel_mono h e.1, go r e.2⟩
theorem tidy_mono {n k : Nat} (h : n ≤ k) : ∀ {m : Mem}, tidy n m = true → tidy k m = true
  | [], _ => rfl
  | x :: r, e => by
    simp only [tidy_cons, Bool.and_eq_true] at *
    exact ⟨bel_mono h e.1, tidy_mono h e.2⟩
def CSs.take : Nat → CSs → CSs
  | n + 1, .cons s r => .cons s (CSs.take n r)
  | _, _ => .nil
def CSs.drop : Nat → CSs → CSs
  | n + 1, .cons _ r => CSs.drop n r
  | _, b => b
@[simp] theorem ctake_0 (b : CSs) : b.take 0 = .nil := by cases b <;> rfl
@[simp] theorem ctake_s (n : Nat) (s : CS) (r : CSs) : (CSs.cons s r).take (n + 1) = .cons s (r.take n) := id rfl
@[simp] theorem cdrop_0 (b : CSs) : b.drop 0 = b := by cases b <;> rfl
@[simp] theorem cdrop_s (n : Nat) (s : CS) (r : CSs) : (CSs.cons s r).drop (n + 1) = r.drop n := id rfl
theorem xss_split (F : Cl) : ∀ (n : Nat) (b : CSs) (st : Sg), xss F b st = (xss F (b.take n) st).bnd (fun st => xss F (b.drop n) st) PUnit.unit
  | 0, b, st => by rw [ctake_0, cdrop_0]; rfl
  | n + 1, .nil, st => rfl
  | n + 1, .cons s r, st => by
    rw [ctake_s, cdrop_s]
    show (xst F s st).bind (fun st => xss F r st) = ((xst F s st).bind fun st => xss F (r.take n) st).bind fun st => xss F (r.drop n) st
    cases xst F s st with
    | nx st => exact xss_split F n r st
    | _ => rfl
@[simp] theorem nat_neg (a : Nat) : ((a : Int) < 0) = False := by simp
/-! ### dicts with tuple keys -/
@[simp] theorem idx_dT (o : Bool) (ks : List (List KA)) (xs : List D) (k : D) : idxD (.node o (.dT ks) xs) k = (keyT k).bind fun k => findK k ks xs := by cases o <;> rfl
@[simp] theorem set_dT (ks : List (List KA)) (xs : List D) (k d : D) : setD (.node true (.dT ks) xs) k d = if xs.length < 16000000 then (keyT k).map fun k => .dT true (putK k d ks xs).1 (putK k d ks xs).2 else none := id rfl
theorem putK_len {κ : Type} [DecidableEq κ] (k : κ) (d : D) : ∀ (ks : List κ) (xs : List D), ks.length = xs.length → (putK k d ks xs).1.length = (putK k d ks xs).2.length ∧ (putK k d ks xs).2.length ≤ xs.length + 1
  | [], [], _ => by simp [putK]
  | [], x :: xs, h => by simp at h
  | j :: js, [], h => by simp at h
  | j :: js, x :: xs, h => by
    simp only [List.length_cons, Nat.add_right_cancel_iff] at h
    have := putK_len k d js xs h
    unfold putK
    split <;> simp <;> omega
theorem findK_putK {κ : Type} [DecidableEq κ] (k j : κ) (d : D) : ∀ (ks : List κ) (xs : List D), ks.length = xs.length → findK j (putK k d ks xs).1 (putK k d ks xs).2 = if k = j then some d else findK j ks xs
  | [], [], _ => by simp [putK, findK]
  | [], x :: xs, h => by simp at h
  | i :: js, [], h => by simp at h
  | i :: js, x :: xs, h => by
    simp only [List.length_cons, Nat.add_right_cancel_iff] at h
    have ih := findK_putK k j d js xs h
    unfold putK
    by_cases hik : i = k
    · subst hik
      simp only [if_true, findK]
      by_cases hij : i = j <;> simp [hij]
    · simp only [if_neg hik, findK]
      by_cases hij : i = j
      · subst hij; simp [Ne.symm hik]
      · simp only [if_neg hij]; exact ih
theorem putK_all {κ : Type} [DecidableEq κ] (p : D → Prop) (k : κ) (d : D) (hd : p d) : ∀ (ks : List κ) (xs : List D), (∀ x ∈ xs, p x) → ∀ x ∈ (putK k d ks xs).2, p x
  | [], xs, h => by simp [putK, hd]
  | j :: js, [], h => by simp [putK, hd]
  | j :: js, x :: xs, h => by
    unfold putK
    split
    · intro y hy; simp at hy; rcases hy with rfl | hy
      · exact hd
      · exact h y (by simp [hy])
    · intro y hy; simp at hy; rcases hy with rfl | hy
      · exact h y (by simp)
      · exact putK_all p k d hd js xs (fun z hz => h z (by simp [hz])) y hy
/-! ### exclusive or with masks of ones -/
theorem xor_1 (x : Nat) (h : x < 2) : Builtin.bitXor 1 (x : Int) = ((1 - x : Nat) : Int) := by revert x; decide
theorem xor_3 (x : Nat) (h : x < 4) : Builtin.bitXor 3 (x : Int) = ((3 - x : Nat) : Int) := by revert x; decide
theorem xor_7 (x : Nat) (h : x < 8) : Builtin.bitXor 7 (x : Int) = ((7 - x : Nat) : Int) := by revert x; decide
theorem xor_15 (x : Nat) (h : x < 16) : Builtin.bitXor 15 (x : Int) = ((15 - x : Nat) : Int) := by revert x; decide
theorem xor_31 (x : Nat) (h : x < 32) : Builtin.bitXor 31 (x : Int) = ((31 - x : Nat) : Int) := by revert x; decide
theorem xor_63 (x : Nat) (h : x < 64) : Builtin.bitXor 63 (x : Int) = ((63 - x : Nat) : Int) := by revert x; decide
/-- a loop that always goes on and keeps something -/
theorem loop_inv {F : Cl} {tg : Tg} {b : CSs} (I : Sg → Prop) : ∀ (l : List D), (∀ x ∈ l, ∀ st, I st → ∃ st1 st2, tgD tg x st = some st1 ∧ xss F b st1 = .nx st2 ∧ I st2) → ∀ st, I st → ∃ st', loopB F tg b l st = .nx st' ∧ I st'
  | [], _, st, h => ⟨st, rfl, h⟩
  | x :: r, hs, st, h => by
    obtain ⟨st1, st2, e1, e2, h2⟩ := hs x (by simp) st h
    obtain ⟨st', e, h'⟩ := loop_inv I r (fun y hy => hs y (by simp [hy])) st2 h2
    refine ⟨st', ?_, h'⟩
    rw [loop_cons, e1]
    simp only [rof_some, rso_obn, rso_ok, e2, obb_bnd, obb_nx, e]
/-! ### loops and comprehensions over lists that are maps -/
theorem lcB_map {α : Type} {F : Cl} {elt : CE} {tg : Tg} {cond : CE} {own : List Nat} {m : Mem} {sl : List (Option D)} (f : α → D) (g : α → Option D) : ∀ (xs : List α), (∀ a ∈ xs, ∃ st1 sl2, tgD tg (f a) ⟨wipe own sl, m⟩ = some st1 ∧ lcT F elt cond st1 = .ok (g a) ⟨sl2, m⟩ ∧ wipe own sl2 = wipe own sl) →
    ∀ (acc : List D) (sl1 : List (Option D)), wipe own sl1 = wipe own sl → acc.length + xs.length ≤ 16777216 → ∃ sl', lcB F elt tg cond own (xs.map f) acc ⟨sl1, m⟩ = .ok (acc ++ xs.filterMap g) ⟨sl', m⟩ ∧ wipe own sl' = wipe own sl
  | [], _, acc, sl1, h, _ => ⟨sl1, by simp, h⟩
  | a :: r, hs, acc, sl1, h, hl => by
    obtain ⟨st1, sl2, e1, e2, e3⟩ := hs a (by simp)
    simp only [List.length_cons] at hl
    cases hg : g a with
    | none =>
      obtain ⟨sl', e, h'⟩ := lcB_map f g r (fun b hb => hs b (by simp [hb])) acc sl2 e3 (by omega)
      refine ⟨sl', ?_, h'⟩
      rw [List.map_cons, lcB_none (st1 := st1) (st2 := ⟨sl2, m⟩) (by rw [h]; exact e1) (by rw [e2, hg]), e, List.filterMap_cons, hg]
    | some d =>
      obtain ⟨sl', e, h'⟩ := lcB_map f g r (fun b hb => hs b (by simp [hb])) (acc ++ [d]) sl2 e3 (by simp; omega)
      refine ⟨sl', ?_, h'⟩
      rw [List.map_cons, lcB_some (st1 := st1) (st2 := ⟨sl2, m⟩) (by rw [h]; exact e1) (by rw [e2, hg]) (by omega), e, List.filterMap_cons, hg]
      simp
theorem v_cmpr_map {α : Type} {F : Cl} {elt : CE} {tg : Tg} {it : CI} {cond : CE} {own : List Nat} {m : Mem} {sl : List (Option D)} {st0 : Sg} (f : α → D) (g : α → Option D) (xs : List α) (h0 : itD F it st0 = .ok (xs.map f) ⟨sl, m⟩) (ho : ownOk own sl = true) (hl : xs.length ≤ 16777216)
    (hs : ∀ a ∈ xs, ∃ st1 sl2, tgD tg (f a) ⟨wipe own sl, m⟩ = some st1 ∧ lcT F elt cond st1 = .ok (g a) ⟨sl2, m⟩ ∧ wipe own sl2 = wipe own sl) :
    (evx F (.cmpr elt tg it cond own)).v st0 = .ok (.lst true (xs.filterMap g)) ⟨sl, m⟩ := by
  obtain ⟨sl', e, h⟩ := lcB_map (F := F) f g xs hs [] sl rfl (by simpa using hl)
  rw [v_cmpr, h0]
  simp only [rsb_bnd, rsb_ok, ho, if_true, e, List.nil_append]
  rw [restore_wipe (by have := congrArg List.length h; simpa [wipe_len] using this.symm) h.symm]
theorem enumL_zip {α : Type} (f : α → D) : ∀ (l : List α) (n : Nat), enumL (n : Int) (l.map f) = (l.zipIdx n).map fun p => D.tup false [.int (p.2 : Int), f p.1]
  | [], n => rfl
  | a :: r, n => by
    rw [List.map_cons, enumL_cons, List.zipIdx_cons, List.map_cons, ← enumL_zip f r (n + 1)]
    rfl
theorem enumL_zip0 {α : Type} (f : α → D) (l : List α) : enumL 0 (l.map f) = l.zipIdx.map fun p => D.tup false [.int (p.2 : Int), f p.1] := enumL_zip f l 0
/-- a loop each of whose turns leaves all as it was -/
theorem loop_same {F : Cl} {tg : Tg} {b : CSs} {st : Sg} (l : List D) (h : ∀ x ∈ l, ∃ st1, tgD tg x st = some st1 ∧ xss F b st1 = .nx st) : loopB F tg b l st = .nx st := by
  obtain ⟨st', e, h'⟩ := loop_inv (F := F) (tg := tg) (b := b) (fun s => s = st) l (fun x hx s hs => by
    subst hs
    obtain ⟨st1, e1, e2⟩ := h x hx
    exact ⟨st1, s, e1, e2, rfl⟩) st rfl
  rw [e, h']
theorem loop_same_map {α : Type} {F : Cl} {tg : Tg} {b : CSs} {st : Sg} (f : α → D) (l : List α) (h : ∀ a ∈ l, ∃ st1, tgD tg (f a) st = some st1 ∧ xss F b st1 = .nx st) : loopB F tg b (l.map f) st = .nx st := loop_same _ fun x hx => by
  obtain ⟨a, ha, rfl⟩ := List.mem_map.mp hx
  exact h a ha
theorem loopC_at {F : Cl} {tg : Tg} {b : CSs} {n k i : Nat} {st : Sg} {o : Bool} {xs : List D} (h : st.m[n]? = some (.node o .lst xs)) : loopC F tg b n (k + 1) i st =
    (match xs[i]? with
      | none => Ob.nx st
      | some x => if x.sh then ((Rs.of (tgD tg x st) st).ob fun st' _ => xss F b st').bind fun st => loopC F tg b n k (i + 1) st else Ob.bad) := by
  show (match st.m[n]? with
    | some (.node _ .lst xs) => (match xs[i]? with
      | none => Ob.nx st
      | some x => if x.sh then ((fun x st => (Rs.of (tgD tg x st) st).ob fun st' _ => xss F b st') x st).bind fun st => forC (fun x st => (Rs.of (tgD tg x st) st).ob fun st' _ => xss F b st') n k (i + 1) st else .bad)
    | _ => .bad) = _
  rw [h]
  rfl
/-- a walk that leaves the walked list as it is -/
theorem loopC_loop {F : Cl} {tg : Tg} {b : CSs} {n : Nat} {xs : List D} (I : Sg → Prop) (hI : ∀ st, I st → ∃ o, st.m[n]? = some (.node o .lst xs)) (hs : ∀ x ∈ xs, x.sh = true)
    (hk : ∀ x ∈ xs, ∀ st st1 st2, I st → tgD tg x st = some st1 → xss F b st1 = .nx st2 → I st2) : ∀ (l : List D) (i k : Nat) (st : Sg), xs.drop i = l → l.length < k → I st → loopC F tg b n k i st = loopB F tg b l st := by
  intro l
  induction l with
  | nil =>
    intro i k st e hl h
    obtain ⟨o, ho⟩ := hI st h
    obtain ⟨k, rfl⟩ : ∃ j, k = j + 1 := ⟨k - 1, by simp at hl; omega⟩
    rw [loopC_at ho]
    have : xs[i]? = none := by
      rw [List.getElem?_eq_none_iff]
      exact List.drop_eq_nil_iff.mp e
    rw [this]
    rfl
  | cons x l ih =>
    intro i k st e hl h
    obtain ⟨o, ho⟩ := hI st h
    obtain ⟨k, rfl⟩ : ∃ j, k = j + 1 := ⟨k - 1, by simp at hl; omega⟩
    have hi : i < xs.length := by
      rcases Nat.lt_or_ge i xs.length with h | h
      · exact h
      · rw [List.drop_eq_nil_of_le h] at e; cases e
    rw [List.drop_eq_getElem_cons hi] at e
    injection e with e1 e2
    have hx : xs[i]? = some x := by rw [List.getElem?_eq_getElem hi, e1]
    have hm : x ∈ xs := List.mem_of_getElem? hx
    rw [loopC_at ho, hx, loop_cons]
    simp only [hs x hm, if_true]
    cases et : tgD tg x st with
    | none => rfl
    | some st1 =>
      show (xss F b st1).bind _ = (xss F b st1).bind _
      cases eb : xss F b st1 with
      | nx st2 => exact ih (i + 1) k st2 e2 (by simp at hl; omega) (hk x hm st st1 st2 h et eb)
      | _ => rfl
theorem loopC_loop0 {F : Cl} {tg : Tg} {b : CSs} {n : Nat} {xs : List D} (I : Sg → Prop) (hI : ∀ st, I st → ∃ o, st.m[n]? = some (.node o .lst xs)) (hs : D.shL xs = true)
    (hk : ∀ x ∈ xs, ∀ st st1 st2, I st → tgD tg x st = some st1 → xss F b st1 = .nx st2 → I st2) (st : Sg) (h : I st) : loopC F tg b n (xs.length + 1) 0 st = loopB F tg b xs st := by
  refine loopC_loop I hI ?_ hk xs 0 _ st rfl (by omega) h
  clear hI hk h
  induction xs with
  | nil => simp
  | cons x r ih =>
    simp at hs
    intro y hy
    rcases List.mem_cons.mp hy with rfl | hy
    · exact hs.1
    · exact ih hs.2 y hy
/-- a walk in which the first turn that hands something back ends it; else all is as ahead -/
theorem loop_ret_map {α : Type} {F : Cl} {tg : Tg} {b : CSs} {st : Sg} (f : α → D) (r : α → Option D) : ∀ (l : List α), (∀ a ∈ l, ∃ st1 sl, tgD tg (f a) st = some st1 ∧ xss F b st1 = match r a with | some d => .rt d ⟨sl, st.m⟩ | none => .nx st) →
    ∃ sl, loopB F tg b (l.map f) st = match l.findSome? r with | some d => .rt d ⟨sl, st.m⟩ | none => .nx st
  | [], _ => ⟨st.sl, rfl⟩
  | a :: l, h => by
    obtain ⟨st1, sl, e1, e2⟩ := h a (by simp)
    rw [List.map_cons, List.findSome?_cons]
    cases er : r a with
    | some d =>
      rw [er] at e2
      exact ⟨sl, by rw [loop_cons, e1]; show (xss F b st1).bind _ = _; rw [e2]; rfl⟩
    | none =>
      rw [er] at e2
      obtain ⟨sl2, e3⟩ := loop_ret_map f r l (fun x hx => h x (by simp [hx]))
      refine ⟨sl2, ?_⟩
      rw [loop_cons, e1]
      show (xss F b st1).bind _ = _
      rw [e2]
      exact e3
/-! equality of a thing with itself -/
mutual
theorem eqD_self : ∀ (d : D) (n : Nat), D.okE n d = true → D.eqD d d = true
  | .non, _, _ => by simp [D.eqD]
  | .bl b, _, _ => by simp [D.eqD]
  | .int i, _, _ => by simp [D.eqD]
  | .str l, _, _ => by simp [D.eqD]
  | .cell c, n, h => by simp [D.okE] at h
  | .node o k xs, n, h => by
    by_cases hk : k = .dK []
    · subst hk
      simp [D.eqD]
    cases n with
    | zero => simp [D.okE, hk] at h
    | succ n =>
      simp only [D.okE, Bool.and_eq_true, Bool.or_eq_true, decide_eq_true_eq, hk, false_and, false_or] at h
      have := eqL_self xs n h.2
      rcases h.1 with rfl | rfl <;> simpa [D.eqD] using this
theorem eqL_self : ∀ (l : List D) (n : Nat), D.okEL n l = true → D.eqL l l = true
  | [], _, _ => by simp [D.eqL]
  | x :: r, n, h => by
    simp only [D.okEL, Bool.and_eq_true] at h
    simp only [D.eqL, Bool.and_eq_true]
    exact ⟨eqD_self x n h.1, eqL_self r n h.2⟩
end
theorem copeq_self {d : D} (h : D.okE 30 d = true) : copD .eq d d = some true := by simp [copD, h, eqD_self d 30 h]
theorem copne_self {d : D} (h : D.okE 30 d = true) : copD .ne d d = some false := by
  have : unK d d = false := by unfold unK; split <;> simp_all
  simp [copD, h, eqD_self d 30 h, this]
end VS
/-! VE6: running refusals. -/
namespace VS
variable {F : Cl}
@[simp] theorem rr_ex (x : Xc) (m : Mem) (st : Sg) : (Rr.ex x m).rs st = .ex x ⟨st.sl, m⟩ := id rfl
@[simp] theorem cl_exc (P : Prog) (r : Bool → String → List D → Mem → Rr) (n : Nat) : (P.cl r n).exc = P.exc := id rfl
def raiE (c : String) (d : D) (st : Sg) : Option (List String) → Ob
  | some [f] => if d.nc then .ex ⟨c, [f], [d.frz]⟩ st else .bad
  | _ => .bad
@[simp] theorem x_rai (c : String) (es : CEs) (st : Sg) : xst F (.rai c es) st = (evv F es st).ob fun ds st => raiD F c ds st := id rfl
@[simp] theorem raiD_one (c : String) (d : D) (st : Sg) : raiD F c [d] st = raiE c d st (F.exc c) := by
  unfold raiD raiE
  split
  · rename_i a b f h1 h2
    cases h1
    rw [h2]
  · rename_i hn
    split
    · rename_i f h
      exact absurd h (hn d f rfl)
    · rfl
@[simp] theorem raiE_some (c f : String) (d : D) (st : Sg) : raiE c d st (some [f]) = if d.nc then .ex ⟨c, [f], [d.frz]⟩ st else .bad := id rfl
@[simp] theorem x_try (b e : CSs) (hs : HDs) (st : Sg) : xst F (.try_ b hs e) st = tryO (xss F b st) (xhs F hs) (xss F e) := id rfl
@[simp] theorem tryO_nx (st : Sg) (h : Xc → Sg → Ob) (e : Sg → Ob) : tryO (.nx st) h e = e st := id rfl
@[simp] theorem tryO_rt (d : D) (st : Sg) (h : Xc → Sg → Ob) (e : Sg → Ob) : tryO (.rt d st) h e = .rt d st := id rfl
@[simp] theorem tryO_ex (x : Xc) (st : Sg) (h : Xc → Sg → Ob) (e : Sg → Ob) : tryO (.ex x st) h e = h x st := id rfl
@[simp] theorem xhs_nil (x : Xc) (st : Sg) : xhs F .nil x st = .ex x st := id rfl
@[simp] theorem xhs_cons (c : String) (i : Option Nat) (s : CSs) (r : HDs) (x : Xc) (st : Sg) : xhs F (.cons c i s r) x st = if F.sub x.c c then (if okH i st then outH i (xss F s (inH i x st)) else .bad) else xhs F r x st := id rfl
@[simp] theorem okH_some (i : Nat) (st : Sg) : okH (some i) st = decide (i < st.sl.length) := id rfl
@[simp] theorem okH_none (st : Sg) : okH none st = true := id rfl
@[simp] theorem inH_some (i : Nat) (x : Xc) (st : Sg) : inH (some i) x st = ⟨st.sl.set i (some (excD x)), st.m⟩ := id rfl
@[simp] theorem inH_none (x : Xc) (st : Sg) : inH none x st = st := id rfl
@[simp] theorem outH_nx (i : Option Nat) (st : Sg) : outH i (.nx st) = .nx (outN i st) := id rfl
@[simp] theorem outH_rt (i : Option Nat) (d : D) (st : Sg) : outH i (.rt d st) = .rt d (outN i st) := id rfl
@[simp] theorem outN_some (i : Nat) (st : Sg) : outN (some i) st = ⟨st.sl.set i none, st.m⟩ := id rfl
@[simp] theorem outN_none (st : Sg) : outN none st = st := id rfl
@[simp] theorem excD_eq (c : String) (ns : List String) (xs : List D) : excD ⟨c, ns, xs⟩ = .node false (.exc c) [.node false (.xd ns) xs] := id rfl
@[simp] theorem isi_exc (o p : Bool) (c e : String) (ns : List String) (xs : List D) : isiD F (.node o (.exc c) [.node p (.xd ns) xs]) (.cls e) = some (F.sub c e) := id rfl
@[simp] theorem fld_exc (o p : Bool) (c f : String) (ns : List String) (xs : List D) : fldD (.node o (.exc c) [.node p (.xd ns) xs]) f = findF f ns xs := id rfl
@[simp] theorem isNm_fz (a : CE) : CE.isNm (.fz a) = false := id rfl
@[simp] theorem isPk_fz (a : CE) : CE.isPk (.fz a) = false := id rfl
@[simp] theorem isAbs_fz (a : CE) : isAbs (.fz a) = false := id rfl
@[simp] theorem v_fz (a : CE) (st : Sg) : (evx F (.fz a)).v st = ((evx F a).v st).bind fun d st => if d.nc then .ok d.frz st else .bad := id rfl
@[simp] theorem rcv_find (s : List Nat) : rcv .find (.str s) = true := id rfl
@[simp] theorem rcv_partition (s : List Nat) : rcv .partition (.str s) = true := id rfl
@[simp] theorem bmt_find (s : List Nat) (c : Nat) : bmtD .find [.str s, .str [c]] = some (.int (findS c s)) := id rfl
@[simp] theorem rcv_index (o : Bool) (xs : List D) : rcv .index (.node o .lst xs) = true := id rfl
@[simp] theorem bmt_index (o : Bool) (xs : List D) (s : List Nat) : bmtD .index [.node o .lst xs, .str s] = (strs? xs).bind fun ss => (ss.findIdx? (· == s)).map fun n => .int (n : Nat) := id rfl
@[simp] theorem rcv_get1K (o : Bool) (ks : List KA) (xs : List D) : rcv .get1 (.node o (.dK ks) xs) = true := id rfl
@[simp] theorem rcv_get1T (o : Bool) (ks : List (List KA)) (xs : List D) : rcv .get1 (.node o (.dT ks) xs) = true := id rfl
@[simp] theorem bmt_get1K (o : Bool) (ks : List KA) (xs : List D) (s : List Nat) : bmtD .get1 [.node o (.dK ks) xs, .str s] = (match findK (KA.s s) ks xs with | some d => if d.sh then some d else none | none => some .non) := rfl
@[simp] theorem bmt_partition (s : List Nat) (c : Nat) : bmtD .partition [.str s, .str [c]] = if s.length ≤ 16777216 then some (.tup false [.str (partS c s).1, .str (partS c s).2.1, .str (partS c s).2.2]) else none := id rfl
@[simp] theorem blt_str1_int (i : Int) : bltD .str1 [.int i] = if i.natAbs.log2 < 1920 then some (.str (strI i)) else none := id rfl
@[simp] theorem blt_str1_str (s : List Nat) : bltD .str1 [.str s] = some (.str s) := id rfl
@[simp] theorem blt_int1_str (s : List Nat) : bltD .int1 [.str s] = if isDigs s = true ∧ s.length ≤ 600 then some (.int (numL s 0 : Nat)) else none := id rfl
@[simp] theorem blt_len_dT (o : Bool) (ks : List (List KA)) (xs : List D) : bltD .len [.node o (.dT ks) xs] = some (.int xs.length) := id rfl
@[simp] theorem blt_list_dK (o : Bool) (ks : List KA) (xs : List D) : bltD .list1 [.node o (.dK ks) xs] = some (.lst true (ks.map unA)) := id rfl
@[simp] theorem blt_list_dT (o : Bool) (ks : List (List KA)) (xs : List D) : bltD .list1 [.node o (.dT ks) xs] = some (.lst true (ks.map fun k => .node false .tup (k.map unA))) := id rfl
@[simp] theorem blt_repr (d : D) : bltD .repr1 [d] = (repD d).map D.str := id rfl
@[simp] theorem blt_len_dK (o : Bool) (ks : List KA) (xs : List D) : bltD .len [.node o (.dK ks) xs] = some (.int xs.length) := id rfl
/-- a loop that may hand back something, over a state that is kept but for what I leaves open -/
theorem loop_ret_inv {α : Type} {F : Cl} {tg : Tg} {b : CSs} (I J : Sg → Prop) (f : α → D) (r : α → Option D) : ∀ (l : List α), (∀ a ∈ l, ∀ st, I st → ∃ st1, tgD tg (f a) st = some st1 ∧ ((∃ d st2, r a = some d ∧ xss F b st1 = .rt d st2 ∧ J st2) ∨ (r a = none ∧ ∃ st2, xss F b st1 = .nx st2 ∧ I st2))) →
    ∀ st, I st → (∃ d st2, l.findSome? r = some d ∧ loopB F tg b (l.map f) st = .rt d st2 ∧ J st2) ∨ (l.findSome? r = none ∧ ∃ st2, loopB F tg b (l.map f) st = .nx st2 ∧ I st2)
  | [], _, st, hi => .inr ⟨rfl, st, rfl, hi⟩
  | a :: l, h, st, hi => by
    obtain ⟨st1, e1, q⟩ := h a (by simp) st hi
    rw [List.findSome?_cons, List.map_cons, loop_cons, e1]
    rcases q with ⟨d, st2, r1, x1, j⟩ | ⟨r1, st2, x1, i2⟩
    · rw [r1]
      refine .inl ⟨d, st2, rfl, ?_, j⟩
      show (xss F b st1).bind _ = _
      rw [x1]; rfl
    · rw [r1]
      have e : ((Rs.of (some st1) st).ob fun st' _ => xss F b st').bind (fun st => loopB F tg b (l.map f) st) = loopB F tg b (l.map f) st2 := by
        show (xss F b st1).bind _ = _
        rw [x1]; rfl
      rw [e]
      exact loop_ret_inv I J f r l (fun a ha => h a (by simp [ha])) st2 i2
end VS
namespace Hk04
open VS
def c__law_cell : Fn := ⟨2, 2, [], (.cons (.ifs (.cmp .lt (.nm 1 .frz) (.bl1 .len (.nm 0 .frz))) (.cons (.ret (.idx (.nm 0 .frz) (.nm 1 .frz) .frz)) .nil) .nil) (.cons (.ret (.bop .add (.bop .mul (.cn (.int 7919)) (.nm 1 .frz)) (.cn (.int 13)))) .nil)), false⟩
def c__law_mixed : Fn := ⟨2, 3, [], (.cons (.asg (.nm 2) (.bop .mod (.bop .add (.bop .add (.bop .mul (.bop .mod (.nm 0 .frz) (.cn (.int 2147483629))) (.cn (.int 48271))) (.bop .mul (.cn (.int 7919)) (.nm 1 .frz))) (.cn (.int 101))) (.cn (.int 2147483647)))) (.cons (.asg (.nm 2) (.bop .mod (.bop .add (.bop .add (.bop .mul (.nm 2 .frz) (.nm 2 .frz)) (.bop .mul (.cn (.int 104729)) (.nm 1 .frz))) (.cn (.int 7))) (.cn (.int 2147483629)))) (.cons (.ret (.bop .mod (.bop .mul (.nm 2 .frz) (.nm 2 .frz)) (.cn (.int 2147483587)))) .nil))), false⟩
def c__law_box : Fn := ⟨1, 1, [], (.cons (.ifs (.cmp .ge (.nm 0 .frz) (.bop .pow (.cn (.int 10)) (.cn (.int 18)))) (.cons (.ret (.lst (.cons (.nm 0 .frz) (.cons (.bop .mod (.nm 0 .frz) (.cn (.int 2147483647))) (.cons (.cn (.int 0)) .nil))))) .nil) .nil) (.cons (.ret (.lst (.cons (.cn (.int 0)) (.cons (.bop .mod (.nm 0 .frz) (.cn (.int 2147483647))) (.cons (.cn (.int 0)) .nil))))) .nil)), true⟩
def c__law_take : Fn := ⟨2, 3, [], (.cons (.ifs (.cmp .gt (.idx (.nm 0 .att) (.cn (.int 0)) .frz) (.cn (.int 0))) (.cons (.asg (.nm 2) (.bop .mod (.idx (.nm 0 .att) (.cn (.int 0)) .frz) (.nm 1 .frz))) (.cons (.setI (.nm 0 .att) (.cn (.int 0)) (.bop .fdiv (.idx (.nm 0 .att) (.cn (.int 0)) .frz) (.nm 1 .frz))) (.cons (.ret (.nm 2 .mov)) .nil))) .nil) (.cons (.setI (.nm 0 .att) (.cn (.int 2)) (.bop .add (.idx (.nm 0 .att) (.cn (.int 2)) .frz) (.cn (.int 1)))) (.cons (.ret (.bop .mod (.cal "_law_mixed" (.cons (.idx (.nm 0 .att) (.cn (.int 1)) .frz) (.cons (.idx (.nm 0 .att) (.cn (.int 2)) .frz) .nil))) (.nm 1 .frz))) .nil))), false⟩
def q__law_things_1 : CE := (.idx (.cn (.str [97, 98, 99, 100, 101, 102, 103, 104, 105, 106, 107, 108, 109, 110, 111, 112, 113, 114, 115, 116, 117, 118, 119, 120, 121, 122])) (.cal "_law_take" (.cons (.nm 1 .att) (.cons (.cn (.int 26)) .nil))) .frz)
def c__law_things : Fn := ⟨1, 5, [], (.cons (.asg (.nm 1) (.cal "_law_box" (.cons (.cal "_law_cell" (.cons (.nm 0 .frz) (.cons (.cn (.int 0)) .nil))) .nil))) (.cons (.asg (.nm 2) (.bm1 .join (.cn (.str [])) (.cmpr q__law_things_1 (.nm 4) (.rng1 (.cal "_law_take" (.cons (.nm 1 .att) (.cons (.cn (.int 9)) .nil)))) (.cn (.bl true)) [4]))) (.cons (.asg (.nm 3) (.bop .sub (.cal "_law_take" (.cons (.nm 1 .att) (.cons (.bop .mul (.cn (.int 2)) (.bop .pow (.cn (.int 10)) (.cn (.int 20)))) .nil))) (.bop .pow (.cn (.int 10)) (.cn (.int 20))))) (.cons (.ret (.idx (.lst (.cons (.nm 2 .frz) (.cons (.nm 3 .frz) (.cons (.tup (.cons (.nm 2 .frz) (.cons (.nm 3 .frz) .nil))) (.cons (.fz (.lst (.cons (.nm 2 .frz) .nil))) (.cons (.cn (.non)) (.cons (.cn (.bl true)) (.cons (.fz (.dct false (.cons (.nm 2 .frz) .nil) (.cons (.nm 3 .frz) .nil))) .nil)))))))) (.cal "_law_take" (.cons (.nm 1 .att) (.cons (.cn (.int 7)) .nil))) .frz)) .nil)))), false⟩
def c__law_founds : Fn := ⟨1, 2, [], (.cons (.asg (.nm 1) (.lst (.cons (.xmk "NoWord" (.cons (.nm 0 .frz) .nil)) (.cons (.xmk "NoKey" (.cons (.nm 0 .frz) .nil)) (.cons (.xmk "NoJoin" (.cons (.nm 0 .frz) .nil)) (.cons (.xmk "NoPart" (.cons (.nm 0 .frz) .nil)) (.cons (.xmk "NoDay" (.cons (.nm 0 .frz) .nil)) (.cons (.xmk "NoPrice" (.cons (.nm 0 .frz) .nil)) (.cons (.xmk "NoSteps" (.cons (.nm 0 .frz) .nil)) .nil))))))))) (.cons (.asg (.nm 1) (.bop .add (.nm 1 .frz) (.lst (.cons (.xmk "NoChoice" (.cons (.nm 0 .frz) .nil)) (.cons (.xmk "NoLine" (.cons (.nm 0 .frz) .nil)) (.cons (.xmk "BadTerms" (.cons (.nm 0 .frz) .nil)) (.cons (.xmk "BadAsks" (.cons (.nm 0 .frz) .nil)) (.cons (.xmk "BadOffers" (.cons (.nm 0 .frz) .nil)) .nil)))))))) (.cons (.ret (.bop .add (.nm 1 .frz) (.lst (.cons (.xmk "BadBeneath" (.cons (.nm 0 .frz) .nil)) (.cons (.xmk "Doubled" (.cons (.nm 0 .frz) .nil)) (.cons (.xmk "Stopped" (.cons (.nm 0 .frz) .nil)) (.cons (.xmk "TooMany" (.cons (.nm 0 .frz) .nil)) (.cons (.xmk "TooDeep" (.cons (.nm 0 .frz) .nil)) (.cons (.xmk "BadText" (.cons (.nm 0 .frz) .nil)) .nil))))))))) .nil))), false⟩
def c__law_kinds : Fn := ⟨1, 2, [], (.cons (.asg (.nm 1) (.lst (.cons (.isi (.nm 0 .frz) [.cls "NoWord"]) (.cons (.isi (.nm 0 .frz) [.cls "NoKey"]) (.cons (.isi (.nm 0 .frz) [.cls "NoJoin"]) (.cons (.isi (.nm 0 .frz) [.cls "NoPart"]) .nil)))))) (.cons (.asg (.nm 1) (.bop .add (.nm 1 .frz) (.lst (.cons (.isi (.nm 0 .frz) [.cls "NoDay"]) (.cons (.isi (.nm 0 .frz) [.cls "NoPrice"]) (.cons (.isi (.nm 0 .frz) [.cls "NoSteps"]) (.cons (.isi (.nm 0 .frz) [.cls "NoChoice"]) .nil))))))) (.cons (.asg (.nm 1) (.bop .add (.nm 1 .frz) (.lst (.cons (.isi (.nm 0 .frz) [.cls "NoLine"]) (.cons (.isi (.nm 0 .frz) [.cls "BadTerms"]) (.cons (.isi (.nm 0 .frz) [.cls "BadAsks"]) (.cons (.isi (.nm 0 .frz) [.cls "BadOffers"]) .nil))))))) (.cons (.asg (.nm 1) (.bop .add (.nm 1 .frz) (.lst (.cons (.isi (.nm 0 .frz) [.cls "BadBeneath"]) (.cons (.isi (.nm 0 .frz) [.cls "Doubled"]) (.cons (.isi (.nm 0 .frz) [.cls "Stopped"]) (.cons (.isi (.nm 0 .frz) [.cls "TooMany"]) .nil))))))) (.cons (.ret (.bop .add (.nm 1 .frz) (.lst (.cons (.isi (.nm 0 .frz) [.cls "TooDeep"]) (.cons (.isi (.nm 0 .frz) [.cls "BadText"]) .nil))))) .nil))))), false⟩
def b_law_1 : CSs := (.cons (.ifs (.or_ (.cmp .ne (.fld (.idx (.nm 2 .frz) (.nm 3 .frz) .frz) "found" .frz) (.nm 1 .frz)) (.cmp .ne (.isi (.fld (.idx (.nm 2 .frz) (.nm 3 .frz) .frz) "found" .frz) [.bool]) (.isi (.nm 1 .frz) [.bool]))) (.cons (.ret (.cn (.bl false))) .nil) .nil) (.cons (.kill [3]) .nil))
def q_law_1 : CE := (.cmp .eq (.nm 5 .frz) (.nm 3 .frz))
def b_law_2 : CSs := (.cons (.ifs (.or_ (.cmp .ne (.cal "_law_kinds" (.cons (.nm 4 .frz) .nil)) (.cmpr q_law_1 (.nm 5) (.rng1 (.cn (.int 18))) (.cn (.bl true)) [5])) (.not_ (.isi (.nm 4 .frz) [.cls "GrantError"]))) (.cons (.ret (.cn (.bl false))) .nil) .nil) (.cons (.ifs (.not_ (.isi (.nm 4 .frz) [.ve])) (.cons (.ret (.cn (.bl false))) .nil) .nil) (.cons (.kill [4]) .nil)))
def c_law : Fn := ⟨1, 6, [], (.cons (.asg (.nm 1) (.cal "_law_things" (.cons (.nm 0 .frz) .nil))) (.cons (.asg (.nm 2) (.cal "_law_founds" (.cons (.nm 1 .frz) .nil))) (.cons (.for_ (.tup [(.nm 3), (.nm 4)]) (.enum (.nm 2 .frz)) b_law_2) (.cons (.for_ (.nm 3) (.rng1 (.cn (.int 13))) b_law_1) (.cons (.ret (.cmp .eq (.lst (.cons (.fld (.idx (.nm 2 .frz) (.cn (.int 13)) .frz) "name" .frz) (.cons (.fld (.idx (.nm 2 .frz) (.cn (.int 14)) .frz) "name" .frz) (.cons (.fld (.idx (.nm 2 .frz) (.cn (.int 15)) .frz) "many" .frz) (.cons (.fld (.idx (.nm 2 .frz) (.cn (.int 16)) .frz) "many" .frz) (.cons (.fld (.idx (.nm 2 .frz) (.cn (.int 17)) .frz) "line" .frz) .nil)))))) (.bop .mul (.lst (.cons (.nm 1 .frz) .nil)) (.cn (.int 5))))) .nil))))), false⟩
def fns : List (String × Fn) := [("_law_cell", c__law_cell), ("_law_mixed", c__law_mixed), ("_law_box", c__law_box), ("_law_take", c__law_take), ("_law_things", c__law_things), ("_law_founds", c__law_founds), ("_law_kinds", c__law_kinds), ("law", c_law)]
def nsT : List (String × Int) := []
def tsT : List (String × List Nat) := []
def cl : List ClsD := []
def xcN : List (String × String) := [("NoWord", "found"), ("NoKey", "found"), ("NoJoin", "found"), ("NoPart", "found"), ("NoDay", "found"), ("NoPrice", "found"), ("NoSteps", "found"), ("NoChoice", "found"), ("NoLine", "found"), ("BadTerms", "found"), ("BadAsks", "found"), ("BadOffers", "found"), ("BadBeneath", "found"), ("Doubled", "name"), ("Stopped", "name"), ("TooMany", "many"), ("TooDeep", "many"), ("BadText", "line")]
def xaN : List (String × List String) := [("GrantError", ["GrantError"]), ("NoWord", ["NoWord", "GrantError"]), ("NoKey", ["NoKey", "GrantError"]), ("NoJoin", ["NoJoin", "GrantError"]), ("NoPart", ["NoPart", "GrantError"]), ("NoDay", ["NoDay", "GrantError"]), ("NoPrice", ["NoPrice", "GrantError"]), ("NoSteps", ["NoSteps", "GrantError"]), ("NoChoice", ["NoChoice", "GrantError"]), ("NoLine", ["NoLine", "GrantError"]), ("BadTerms", ["BadTerms", "GrantError"]), ("BadAsks", ["BadAsks", "GrantError"]), ("BadOffers", ["BadOffers", "GrantError"]), ("BadBeneath", ["BadBeneath", "GrantError"]), ("Doubled", ["Doubled", "GrantError"]), ("Stopped", ["Stopped", "GrantError"]), ("TooMany", ["TooMany", "GrantError"]), ("TooDeep", ["TooDeep", "GrantError"]), ("BadText", ["BadText", "GrantError"])]
def P : Prog := prog2 fns nsT tsT cl xcN xaN
@[simp] theorem exc_NoWord : P.exc "NoWord" = some ["found"] := rfl
@[simp] theorem exc_NoKey : P.exc "NoKey" = some ["found"] := rfl
@[simp] theorem exc_NoJoin : P.exc "NoJoin" = some ["found"] := rfl
@[simp] theorem exc_NoPart : P.exc "NoPart" = some ["found"] := rfl
@[simp] theorem exc_NoDay : P.exc "NoDay" = some ["found"] := rfl
@[simp] theorem exc_NoPrice : P.exc "NoPrice" = some ["found"] := rfl
@[simp] theorem exc_NoSteps : P.exc "NoSteps" = some ["found"] := rfl
@[simp] theorem exc_NoChoice : P.exc "NoChoice" = some ["found"] := rfl
@[simp] theorem exc_NoLine : P.exc "NoLine" = some ["found"] := rfl
@[simp] theorem exc_BadTerms : P.exc "BadTerms" = some ["found"] := rfl
@[simp] theorem exc_BadAsks : P.exc "BadAsks" = some ["found"] := rfl
@[simp] theorem exc_BadOffers : P.exc "BadOffers" = some ["found"] := rfl
@[simp] theorem exc_BadBeneath : P.exc "BadBeneath" = some ["found"] := rfl
@[simp] theorem exc_Doubled : P.exc "Doubled" = some ["name"] := rfl
@[simp] theorem exc_Stopped : P.exc "Stopped" = some ["name"] := rfl
@[simp] theorem exc_TooMany : P.exc "TooMany" = some ["many"] := rfl
@[simp] theorem exc_TooDeep : P.exc "TooDeep" = some ["many"] := rfl
@[simp] theorem exc_BadText : P.exc "BadText" = some ["line"] := rfl
@[simp] theorem sub_BadAsks_BadAsks : P.sub "BadAsks" "BadAsks" = true := rfl
@[simp] theorem sub_BadAsks_BadBeneath : P.sub "BadAsks" "BadBeneath" = false := rfl
@[simp] theorem sub_BadAsks_BadOffers : P.sub "BadAsks" "BadOffers" = false := rfl
@[simp] theorem sub_BadAsks_BadTerms : P.sub "BadAsks" "BadTerms" = false := rfl
@[simp] theorem sub_BadAsks_BadText : P.sub "BadAsks" "BadText" = false := rfl
@[simp] theorem sub_BadAsks_Doubled : P.sub "BadAsks" "Doubled" = false := rfl
@[simp] theorem sub_BadAsks_GrantError : P.sub "BadAsks" "GrantError" = true := rfl
@[simp] theorem sub_BadAsks_NoChoice : P.sub "BadAsks" "NoChoice" = false := rfl
@[simp] theorem sub_BadAsks_NoDay : P.sub "BadAsks" "NoDay" = false := rfl
@[simp] theorem sub_BadAsks_NoJoin : P.sub "BadAsks" "NoJoin" = false := rfl
@[simp] theorem sub_BadAsks_NoKey : P.sub "BadAsks" "NoKey" = false := rfl
@[simp] theorem sub_BadAsks_NoLine : P.sub "BadAsks" "NoLine" = false := rfl
@[simp] theorem sub_BadAsks_NoPart : P.sub "BadAsks" "NoPart" = false := rfl
@[simp] theorem sub_BadAsks_NoPrice : P.sub "BadAsks" "NoPrice" = false := rfl
@[simp] theorem sub_BadAsks_NoSteps : P.sub "BadAsks" "NoSteps" = false := rfl
@[simp] theorem sub_BadAsks_NoWord : P.sub "BadAsks" "NoWord" = false := rfl
@[simp] theorem sub_BadAsks_Stopped : P.sub "BadAsks" "Stopped" = false := rfl
@[simp] theorem sub_BadAsks_TooDeep : P.sub "BadAsks" "TooDeep" = false := rfl
@[simp] theorem sub_BadAsks_TooMany : P.sub "BadAsks" "TooMany" = false := rfl
@[simp] theorem sub_BadBeneath_BadAsks : P.sub "BadBeneath" "BadAsks" = false := rfl
@[simp] theorem sub_BadBeneath_BadBeneath : P.sub "BadBeneath" "BadBeneath" = true := rfl
@[simp] theorem sub_BadBeneath_BadOffers : P.sub "BadBeneath" "BadOffers" = false := rfl
@[simp] theorem sub_BadBeneath_BadTerms : P.sub "BadBeneath" "BadTerms" = false := rfl
@[simp] theorem sub_BadBeneath_BadText : P.sub "BadBeneath" "BadText" = false := rfl
@[simp] theorem sub_BadBeneath_Doubled : P.sub "BadBeneath" "Doubled" = false := rfl
@[simp] theorem sub_BadBeneath_GrantError : P.sub "BadBeneath" "GrantError" = true := rfl
@[simp] theorem sub_BadBeneath_NoChoice : P.sub "BadBeneath" "NoChoice" = false := rfl
@[simp] theorem sub_BadBeneath_NoDay : P.sub "BadBeneath" "NoDay" = false := rfl
@[simp] theorem sub_BadBeneath_NoJoin : P.sub "BadBeneath" "NoJoin" = false := rfl
@[simp] theorem sub_BadBeneath_NoKey : P.sub "BadBeneath" "NoKey" = false := rfl
@[simp] theorem sub_BadBeneath_NoLine : P.sub "BadBeneath" "NoLine" = false := rfl
@[simp] theorem sub_BadBeneath_NoPart : P.sub "BadBeneath" "NoPart" = false := rfl
@[simp] theorem sub_BadBeneath_NoPrice : P.sub "BadBeneath" "NoPrice" = false := rfl
@[simp] theorem sub_BadBeneath_NoSteps : P.sub "BadBeneath" "NoSteps" = false := rfl
@[simp] theorem sub_BadBeneath_NoWord : P.sub "BadBeneath" "NoWord" = false := rfl
@[simp] theorem sub_BadBeneath_Stopped : P.sub "BadBeneath" "Stopped" = false := rfl
@[simp] theorem sub_BadBeneath_TooDeep : P.sub "BadBeneath" "TooDeep" = false := rfl
@[simp] theorem sub_BadBeneath_TooMany : P.sub "BadBeneath" "TooMany" = false := rfl
@[simp] theorem sub_BadOffers_BadAsks : P.sub "BadOffers" "BadAsks" = false := rfl
@[simp] theorem sub_BadOffers_BadBeneath : P.sub "BadOffers" "BadBeneath" = false := rfl
@[simp] theorem sub_BadOffers_BadOffers : P.sub "BadOffers" "BadOffers" = true := rfl
@[simp] theorem sub_BadOffers_BadTerms : P.sub "BadOffers" "BadTerms" = false := rfl
@[simp] theorem sub_BadOffers_BadText : P.sub "BadOffers" "BadText" = false := rfl
@[simp] theorem sub_BadOffers_Doubled : P.sub "BadOffers" "Doubled" = false := rfl
@[simp] theorem sub_BadOffers_GrantError : P.sub "BadOffers" "GrantError" = true := rfl
@[simp] theorem sub_BadOffers_NoChoice : P.sub "BadOffers" "NoChoice" = false := rfl
@[simp] theorem sub_BadOffers_NoDay : P.sub "BadOffers" "NoDay" = false := rfl
@[simp] theorem sub_BadOffers_NoJoin : P.sub "BadOffers" "NoJoin" = false := rfl
@[simp] theorem sub_BadOffers_NoKey : P.sub "BadOffers" "NoKey" = false := rfl
@[simp] theorem sub_BadOffers_NoLine : P.sub "BadOffers" "NoLine" = false := rfl
@[simp] theorem sub_BadOffers_NoPart : P.sub "BadOffers" "NoPart" = false := rfl
@[simp] theorem sub_BadOffers_NoPrice : P.sub "BadOffers" "NoPrice" = false := rfl
@[simp] theorem sub_BadOffers_NoSteps : P.sub "BadOffers" "NoSteps" = false := rfl
@[simp] theorem sub_BadOffers_NoWord : P.sub "BadOffers" "NoWord" = false := rfl
@[simp] theorem sub_BadOffers_Stopped : P.sub "BadOffers" "Stopped" = false := rfl
@[simp] theorem sub_BadOffers_TooDeep : P.sub "BadOffers" "TooDeep" = false := rfl
@[simp] theorem sub_BadOffers_TooMany : P.sub "BadOffers" "TooMany" = false := rfl
@[simp] theorem sub_BadTerms_BadAsks : P.sub "BadTerms" "BadAsks" = false := rfl
@[simp] theorem sub_BadTerms_BadBeneath : P.sub "BadTerms" "BadBeneath" = false := rfl
@[simp] theorem sub_BadTerms_BadOffers : P.sub "BadTerms" "BadOffers" = false := rfl
@[simp] theorem sub_BadTerms_BadTerms : P.sub "BadTerms" "BadTerms" = true := rfl
@[simp] theorem sub_BadTerms_BadText : P.sub "BadTerms" "BadText" = false := rfl
@[simp] theorem sub_BadTerms_Doubled : P.sub "BadTerms" "Doubled" = false := rfl
@[simp] theorem sub_BadTerms_GrantError : P.sub "BadTerms" "GrantError" = true := rfl
@[simp] theorem sub_BadTerms_NoChoice : P.sub "BadTerms" "NoChoice" = false := rfl
@[simp] theorem sub_BadTerms_NoDay : P.sub "BadTerms" "NoDay" = false := rfl
@[simp] theorem sub_BadTerms_NoJoin : P.sub "BadTerms" "NoJoin" = false := rfl
@[simp] theorem sub_BadTerms_NoKey : P.sub "BadTerms" "NoKey" = false := rfl
@[simp] theorem sub_BadTerms_NoLine : P.sub "BadTerms" "NoLine" = false := rfl
@[simp] theorem sub_BadTerms_NoPart : P.sub "BadTerms" "NoPart" = false := rfl
@[simp] theorem sub_BadTerms_NoPrice : P.sub "BadTerms" "NoPrice" = false := rfl
@[simp] theorem sub_BadTerms_NoSteps : P.sub "BadTerms" "NoSteps" = false := rfl
@[simp] theorem sub_BadTerms_NoWord : P.sub "BadTerms" "NoWord" = false := rfl
@[simp] theorem sub_BadTerms_Stopped : P.sub "BadTerms" "Stopped" = false := rfl
@[simp] theorem sub_BadTerms_TooDeep : P.sub "BadTerms" "TooDeep" = false := rfl
@[simp] theorem sub_BadTerms_TooMany : P.sub "BadTerms" "TooMany" = false := rfl
@[simp] theorem sub_BadText_BadAsks : P.sub "BadText" "BadAsks" = false := rfl
@[simp] theorem sub_BadText_BadBeneath : P.sub "BadText" "BadBeneath" = false := rfl
@[simp] theorem sub_BadText_BadOffers : P.sub "BadText" "BadOffers" = false := rfl
@[simp] theorem sub_BadText_BadTerms : P.sub "BadText" "BadTerms" = false := rfl
@[simp] theorem sub_BadText_BadText : P.sub "BadText" "BadText" = true := rfl
@[simp] theorem sub_BadText_Doubled : P.sub "BadText" "Doubled" = false := rfl
@[simp] theorem sub_BadText_GrantError : P.sub "BadText" "GrantError" = true := rfl
@[simp] theorem sub_BadText_NoChoice : P.sub "BadText" "NoChoice" = false := rfl
@[simp] theorem sub_BadText_NoDay : P.sub "BadText" "NoDay" = false := rfl
@[simp] theorem sub_BadText_NoJoin : P.sub "BadText" "NoJoin" = false := rfl
@[simp] theorem sub_BadText_NoKey : P.sub "BadText" "NoKey" = false := rfl
@[simp] theorem sub_BadText_NoLine : P.sub "BadText" "NoLine" = false := rfl
@[simp] theorem sub_BadText_NoPart : P.sub "BadText" "NoPart" = false := rfl
@[simp] theorem sub_BadText_NoPrice : P.sub "BadText" "NoPrice" = false := rfl
@[simp] theorem sub_BadText_NoSteps : P.sub "BadText" "NoSteps" = false := rfl
@[simp] theorem sub_BadText_NoWord : P.sub "BadText" "NoWord" = false := rfl
@[simp] theorem sub_BadText_Stopped : P.sub "BadText" "Stopped" = false := rfl
@[simp] theorem sub_BadText_TooDeep : P.sub "BadText" "TooDeep" = false := rfl
@[simp] theorem sub_BadText_TooMany : P.sub "BadText" "TooMany" = false := rfl
@[simp] theorem sub_Doubled_BadAsks : P.sub "Doubled" "BadAsks" = false := rfl
@[simp] theorem sub_Doubled_BadBeneath : P.sub "Doubled" "BadBeneath" = false := rfl
@[simp] theorem sub_Doubled_BadOffers : P.sub "Doubled" "BadOffers" = false := rfl
@[simp] theorem sub_Doubled_BadTerms : P.sub "Doubled" "BadTerms" = false := rfl
@[simp] theorem sub_Doubled_BadText : P.sub "Doubled" "BadText" = false := rfl
@[simp] theorem sub_Doubled_Doubled : P.sub "Doubled" "Doubled" = true := rfl
@[simp] theorem sub_Doubled_GrantError : P.sub "Doubled" "GrantError" = true := rfl
@[simp] theorem sub_Doubled_NoChoice : P.sub "Doubled" "NoChoice" = false := rfl
@[simp] theorem sub_Doubled_NoDay : P.sub "Doubled" "NoDay" = false := rfl
@[simp] theorem sub_Doubled_NoJoin : P.sub "Doubled" "NoJoin" = false := rfl
@[simp] theorem sub_Doubled_NoKey : P.sub "Doubled" "NoKey" = false := rfl
@[simp] theorem sub_Doubled_NoLine : P.sub "Doubled" "NoLine" = false := rfl
@[simp] theorem sub_Doubled_NoPart : P.sub "Doubled" "NoPart" = false := rfl
@[simp] theorem sub_Doubled_NoPrice : P.sub "Doubled" "NoPrice" = false := rfl
@[simp] theorem sub_Doubled_NoSteps : P.sub "Doubled" "NoSteps" = false := rfl
@[simp] theorem sub_Doubled_NoWord : P.sub "Doubled" "NoWord" = false := rfl
@[simp] theorem sub_Doubled_Stopped : P.sub "Doubled" "Stopped" = false := rfl
@[simp] theorem sub_Doubled_TooDeep : P.sub "Doubled" "TooDeep" = false := rfl
@[simp] theorem sub_Doubled_TooMany : P.sub "Doubled" "TooMany" = false := rfl
@[simp] theorem sub_NoChoice_BadAsks : P.sub "NoChoice" "BadAsks" = false := rfl
@[simp] theorem sub_NoChoice_BadBeneath : P.sub "NoChoice" "BadBeneath" = false := rfl
@[simp] theorem sub_NoChoice_BadOffers : P.sub "NoChoice" "BadOffers" = false := rfl
@[simp] theorem sub_NoChoice_BadTerms : P.sub "NoChoice" "BadTerms" = false := rfl
@[simp] theorem sub_NoChoice_BadText : P.sub "NoChoice" "BadText" = false := rfl
@[simp] theorem sub_NoChoice_Doubled : P.sub "NoChoice" "Doubled" = false := rfl
@[simp] theorem sub_NoChoice_GrantError : P.sub "NoChoice" "GrantError" = true := rfl
@[simp] theorem sub_NoChoice_NoChoice : P.sub "NoChoice" "NoChoice" = true := rfl
@[simp] theorem sub_NoChoice_NoDay : P.sub "NoChoice" "NoDay" = false := rfl
@[simp] theorem sub_NoChoice_NoJoin : P.sub "NoChoice" "NoJoin" = false := rfl
@[simp] theorem sub_NoChoice_NoKey : P.sub "NoChoice" "NoKey" = false := rfl
@[simp] theorem sub_NoChoice_NoLine : P.sub "NoChoice" "NoLine" = false := rfl
@[simp] theorem sub_NoChoice_NoPart : P.sub "NoChoice" "NoPart" = false := rfl
@[simp] theorem sub_NoChoice_NoPrice : P.sub "NoChoice" "NoPrice" = false := rfl
@[simp] theorem sub_NoChoice_NoSteps : P.sub "NoChoice" "NoSteps" = false := rfl
@[simp] theorem sub_NoChoice_NoWord : P.sub "NoChoice" "NoWord" = false := rfl
@[simp] theorem sub_NoChoice_Stopped : P.sub "NoChoice" "Stopped" = false := rfl
@[simp] theorem sub_NoChoice_TooDeep : P.sub "NoChoice" "TooDeep" = false := rfl
@[simp] theorem sub_NoChoice_TooMany : P.sub "NoChoice" "TooMany" = false := rfl
@[simp] theorem sub_NoDay_BadAsks : P.sub "NoDay" "BadAsks" = false := rfl
@[simp] theorem sub_NoDay_BadBeneath : P.sub "NoDay" "BadBeneath" = false := rfl
@[simp] theorem sub_NoDay_BadOffers : P.sub "NoDay" "BadOffers" = false := rfl
@[simp] theorem sub_NoDay_BadTerms : P.sub "NoDay" "BadTerms" = false := rfl
@[simp] theorem sub_NoDay_BadText : P.sub "NoDay" "BadText" = false := rfl
@[simp] theorem sub_NoDay_Doubled : P.sub "NoDay" "Doubled" = false := rfl
@[simp] theorem sub_NoDay_GrantError : P.sub "NoDay" "GrantError" = true := rfl
@[simp] theorem sub_NoDay_NoChoice : P.sub "NoDay" "NoChoice" = false := rfl
@[simp] theorem sub_NoDay_NoDay : P.sub "NoDay" "NoDay" = true := rfl
@[simp] theorem sub_NoDay_NoJoin : P.sub "NoDay" "NoJoin" = false := rfl
@[simp] theorem sub_NoDay_NoKey : P.sub "NoDay" "NoKey" = false := rfl
@[simp] theorem sub_NoDay_NoLine : P.sub "NoDay" "NoLine" = false := rfl
@[simp] theorem sub_NoDay_NoPart : P.sub "NoDay" "NoPart" = false := rfl
@[simp] theorem sub_NoDay_NoPrice : P.sub "NoDay" "NoPrice" = false := rfl
@[simp] theorem sub_NoDay_NoSteps : P.sub "NoDay" "NoSteps" = false := rfl
@[simp] theorem sub_NoDay_NoWord : P.sub "NoDay" "NoWord" = false := rfl
@[simp] theorem sub_NoDay_Stopped : P.sub "NoDay" "Stopped" = false := rfl
@[simp] theorem sub_NoDay_TooDeep : P.sub "NoDay" "TooDeep" = false := rfl
@[simp] theorem sub_NoDay_TooMany : P.sub "NoDay" "TooMany" = false := rfl
@[simp] theorem sub_NoJoin_BadAsks : P.sub "NoJoin" "BadAsks" = false := rfl
@[simp] theorem sub_NoJoin_BadBeneath : P.sub "NoJoin" "BadBeneath" = false := rfl
@[simp] theorem sub_NoJoin_BadOffers : P.sub "NoJoin" "BadOffers" = false := rfl
@[simp] theorem sub_NoJoin_BadTerms : P.sub "NoJoin" "BadTerms" = false := rfl
@[simp] theorem sub_NoJoin_BadText : P.sub "NoJoin" "BadText" = false := rfl
@[simp] theorem sub_NoJoin_Doubled : P.sub "NoJoin" "Doubled" = false := rfl
@[simp] theorem sub_NoJoin_GrantError : P.sub "NoJoin" "GrantError" = true := rfl
@[simp] theorem sub_NoJoin_NoChoice : P.sub "NoJoin" "NoChoice" = false := rfl
@[simp] theorem sub_NoJoin_NoDay : P.sub "NoJoin" "NoDay" = false := rfl
@[simp] theorem sub_NoJoin_NoJoin : P.sub "NoJoin" "NoJoin" = true := rfl
@[simp] theorem sub_NoJoin_NoKey : P.sub "NoJoin" "NoKey" = false := rfl
@[simp] theorem sub_NoJoin_NoLine : P.sub "NoJoin" "NoLine" = false := rfl
@[simp] theorem sub_NoJoin_NoPart : P.sub "NoJoin" "NoPart" = false := rfl
@[simp] theorem sub_NoJoin_NoPrice : P.sub "NoJoin" "NoPrice" = false := rfl
@[simp] theorem sub_NoJoin_NoSteps : P.sub "NoJoin" "NoSteps" = false := rfl
@[simp] theorem sub_NoJoin_NoWord : P.sub "NoJoin" "NoWord" = false := rfl
@[simp] theorem sub_NoJoin_Stopped : P.sub "NoJoin" "Stopped" = false := rfl
@[simp] theorem sub_NoJoin_TooDeep : P.sub "NoJoin" "TooDeep" = false := rfl
@[simp] theorem sub_NoJoin_TooMany : P.sub "NoJoin" "TooMany" = false := rfl
@[simp] theorem sub_NoKey_BadAsks : P.sub "NoKey" "BadAsks" = false := rfl
@[simp] theorem sub_NoKey_BadBeneath : P.sub "NoKey" "BadBeneath" = false := rfl
@[simp] theorem sub_NoKey_BadOffers : P.sub "NoKey" "BadOffers" = false := rfl
@[simp] theorem sub_NoKey_BadTerms : P.sub "NoKey" "BadTerms" = false := rfl
@[simp] theorem sub_NoKey_BadText : P.sub "NoKey" "BadText" = false := rfl
@[simp] theorem sub_NoKey_Doubled : P.sub "NoKey" "Doubled" = false := rfl
@[simp] theorem sub_NoKey_GrantError : P.sub "NoKey" "GrantError" = true := rfl
@[simp] theorem sub_NoKey_NoChoice : P.sub "NoKey" "NoChoice" = false := rfl
@[simp] theorem sub_NoKey_NoDay : P.sub "NoKey" "NoDay" = false := rfl
@[simp] theorem sub_NoKey_NoJoin : P.sub "NoKey" "NoJoin" = false := rfl
@[simp] theorem sub_NoKey_NoKey : P.sub "NoKey" "NoKey" = true := rfl
@[simp] theorem sub_NoKey_NoLine : P.sub "NoKey" "NoLine" = false := rfl
@[simp] theorem sub_NoKey_NoPart : P.sub "NoKey" "NoPart" = false := rfl
@[simp] theorem sub_NoKey_NoPrice : P.sub "NoKey" "NoPrice" = false := rfl
@[simp] theorem sub_NoKey_NoSteps : P.sub "NoKey" "NoSteps" = false := rfl
@[simp] theorem sub_NoKey_NoWord : P.sub "NoKey" "NoWord" = false := rfl
@[simp] theorem sub_NoKey_Stopped : P.sub "NoKey" "Stopped" = false := rfl
@[simp] theorem sub_NoKey_TooDeep : P.sub "NoKey" "TooDeep" = false := rfl
@[simp] theorem sub_NoKey_TooMany : P.sub "NoKey" "TooMany" = false := rfl
@[simp] theorem sub_NoLine_BadAsks : P.sub "NoLine" "BadAsks" = false := rfl
@[simp] theorem sub_NoLine_BadBeneath : P.sub "NoLine" "BadBeneath" = false := rfl
@[simp] theorem sub_NoLine_BadOffers : P.sub "NoLine" "BadOffers" = false := rfl
@[simp] theorem sub_NoLine_BadTerms : P.sub "NoLine" "BadTerms" = false := rfl
@[simp] theorem sub_NoLine_BadText : P.sub "NoLine" "BadText" = false := rfl
@[simp] theorem sub_NoLine_Doubled : P.sub "NoLine" "Doubled" = false := rfl
@[simp] theorem sub_NoLine_GrantError : P.sub "NoLine" "GrantError" = true := rfl
@[simp] theorem sub_NoLine_NoChoice : P.sub "NoLine" "NoChoice" = false := rfl
@[simp] theorem sub_NoLine_NoDay : P.sub "NoLine" "NoDay" = false := rfl
@[simp] theorem sub_NoLine_NoJoin : P.sub "NoLine" "NoJoin" = false := rfl
@[simp] theorem sub_NoLine_NoKey : P.sub "NoLine" "NoKey" = false := rfl
@[simp] theorem sub_NoLine_NoLine : P.sub "NoLine" "NoLine" = true := rfl
@[simp] theorem sub_NoLine_NoPart : P.sub "NoLine" "NoPart" = false := rfl
@[simp] theorem sub_NoLine_NoPrice : P.sub "NoLine" "NoPrice" = false := rfl
@[simp] theorem sub_NoLine_NoSteps : P.sub "NoLine" "NoSteps" = false := rfl
@[simp] theorem sub_NoLine_NoWord : P.sub "NoLine" "NoWord" = false := rfl
@[simp] theorem sub_NoLine_Stopped : P.sub "NoLine" "Stopped" = false := rfl
@[simp] theorem sub_NoLine_TooDeep : P.sub "NoLine" "TooDeep" = false := rfl
@[simp] theorem sub_NoLine_TooMany : P.sub "NoLine" "TooMany" = false := rfl
@[simp] theorem sub_NoPart_BadAsks : P.sub "NoPart" "BadAsks" = false := rfl
@[simp] theorem sub_NoPart_BadBeneath : P.sub "NoPart" "BadBeneath" = false := rfl
@[simp] theorem sub_NoPart_BadOffers : P.sub "NoPart" "BadOffers" = false := rfl
@[simp] theorem sub_NoPart_BadTerms : P.sub "NoPart" "BadTerms" = false := rfl
@[simp] theorem sub_NoPart_BadText : P.sub "NoPart" "BadText" = false := rfl
@[simp] theorem sub_NoPart_Doubled : P.sub "NoPart" "Doubled" = false := rfl
@[simp] theorem sub_NoPart_GrantError : P.sub "NoPart" "GrantError" = true := rfl
@[simp] theorem sub_NoPart_NoChoice : P.sub "NoPart" "NoChoice" = false := rfl
@[simp] theorem sub_NoPart_NoDay : P.sub "NoPart" "NoDay" = false := rfl
@[simp] theorem sub_NoPart_NoJoin : P.sub "NoPart" "NoJoin" = false := rfl
@[simp] theorem sub_NoPart_NoKey : P.sub "NoPart" "NoKey" = false := rfl
@[simp] theorem sub_NoPart_NoLine : P.sub "NoPart" "NoLine" = false := rfl
@[simp] theorem sub_NoPart_NoPart : P.sub "NoPart" "NoPart" = true := rfl
@[simp] theorem sub_NoPart_NoPrice : P.sub "NoPart" "NoPrice" = false := rfl
@[simp] theorem sub_NoPart_NoSteps : P.sub "NoPart" "NoSteps" = false := rfl
@[simp] theorem sub_NoPart_NoWord : P.sub "NoPart" "NoWord" = false := rfl
@[simp] theorem sub_NoPart_Stopped : P.sub "NoPart" "Stopped" = false := rfl
@[simp] theorem sub_NoPart_TooDeep : P.sub "NoPart" "TooDeep" = false := rfl
@[simp] theorem sub_NoPart_TooMany : P.sub "NoPart" "TooMany" = false := rfl
@[simp] theorem sub_NoPrice_BadAsks : P.sub "NoPrice" "BadAsks" = false := rfl
@[simp] theorem sub_NoPrice_BadBeneath : P.sub "NoPrice" "BadBeneath" = false := rfl
@[simp] theorem sub_NoPrice_BadOffers : P.sub "NoPrice" "BadOffers" = false := rfl
@[simp] theorem sub_NoPrice_BadTerms : P.sub "NoPrice" "BadTerms" = false := rfl
@[simp] theorem sub_NoPrice_BadText : P.sub "NoPrice" "BadText" = false := rfl
@[simp] theorem sub_NoPrice_Doubled : P.sub "NoPrice" "Doubled" = false := rfl
@[simp] theorem sub_NoPrice_GrantError : P.sub "NoPrice" "GrantError" = true := rfl
@[simp] theorem sub_NoPrice_NoChoice : P.sub "NoPrice" "NoChoice" = false := rfl
@[simp] theorem sub_NoPrice_NoDay : P.sub "NoPrice" "NoDay" = false := rfl
@[simp] theorem sub_NoPrice_NoJoin : P.sub "NoPrice" "NoJoin" = false := rfl
@[simp] theorem sub_NoPrice_NoKey : P.sub "NoPrice" "NoKey" = false := rfl
@[simp] theorem sub_NoPrice_NoLine : P.sub "NoPrice" "NoLine" = false := rfl
@[simp] theorem sub_NoPrice_NoPart : P.sub "NoPrice" "NoPart" = false := rfl
@[simp] theorem sub_NoPrice_NoPrice : P.sub "NoPrice" "NoPrice" = true := rfl
@[simp] theorem sub_NoPrice_NoSteps : P.sub "NoPrice" "NoSteps" = false := rfl
@[simp] theorem sub_NoPrice_NoWord : P.sub "NoPrice" "NoWord" = false := rfl
@[simp] theorem sub_NoPrice_Stopped : P.sub "NoPrice" "Stopped" = false := rfl
@[simp] theorem sub_NoPrice_TooDeep : P.sub "NoPrice" "TooDeep" = false := rfl
@[simp] theorem sub_NoPrice_TooMany : P.sub "NoPrice" "TooMany" = false := rfl
@[simp] theorem sub_NoSteps_BadAsks : P.sub "NoSteps" "BadAsks" = false := rfl
@[simp] theorem sub_NoSteps_BadBeneath : P.sub "NoSteps" "BadBeneath" = false := rfl
@[simp] theorem sub_NoSteps_BadOffers : P.sub "NoSteps" "BadOffers" = false := rfl
@[simp] theorem sub_NoSteps_BadTerms : P.sub "NoSteps" "BadTerms" = false := rfl
@[simp] theorem sub_NoSteps_BadText : P.sub "NoSteps" "BadText" = false := rfl
@[simp] theorem sub_NoSteps_Doubled : P.sub "NoSteps" "Doubled" = false := rfl
@[simp] theorem sub_NoSteps_GrantError : P.sub "NoSteps" "GrantError" = true := rfl
@[simp] theorem sub_NoSteps_NoChoice : P.sub "NoSteps" "NoChoice" = false := rfl
@[simp] theorem sub_NoSteps_NoDay : P.sub "NoSteps" "NoDay" = false := rfl
@[simp] theorem sub_NoSteps_NoJoin : P.sub "NoSteps" "NoJoin" = false := rfl
@[simp] theorem sub_NoSteps_NoKey : P.sub "NoSteps" "NoKey" = false := rfl
@[simp] theorem sub_NoSteps_NoLine : P.sub "NoSteps" "NoLine" = false := rfl
@[simp] theorem sub_NoSteps_NoPart : P.sub "NoSteps" "NoPart" = false := rfl
@[simp] theorem sub_NoSteps_NoPrice : P.sub "NoSteps" "NoPrice" = false := rfl
@[simp] theorem sub_NoSteps_NoSteps : P.sub "NoSteps" "NoSteps" = true := rfl
@[simp] theorem sub_NoSteps_NoWord : P.sub "NoSteps" "NoWord" = false := rfl
@[simp] theorem sub_NoSteps_Stopped : P.sub "NoSteps" "Stopped" = false := rfl
@[simp] theorem sub_NoSteps_TooDeep : P.sub "NoSteps" "TooDeep" = false := rfl
@[simp] theorem sub_NoSteps_TooMany : P.sub "NoSteps" "TooMany" = false := rfl
@[simp] theorem sub_NoWord_BadAsks : P.sub "NoWord" "BadAsks" = false := rfl
@[simp] theorem sub_NoWord_BadBeneath : P.sub "NoWord" "BadBeneath" = false := rfl
@[simp] theorem sub_NoWord_BadOffers : P.sub "NoWord" "BadOffers" = false := rfl
@[simp] theorem sub_NoWord_BadTerms : P.sub "NoWord" "BadTerms" = false := rfl
@[simp] theorem sub_NoWord_BadText : P.sub "NoWord" "BadText" = false := rfl
@[simp] theorem sub_NoWord_Doubled : P.sub "NoWord" "Doubled" = false := rfl
@[simp] theorem sub_NoWord_GrantError : P.sub "NoWord" "GrantError" = true := rfl
@[simp] theorem sub_NoWord_NoChoice : P.sub "NoWord" "NoChoice" = false := rfl
@[simp] theorem sub_NoWord_NoDay : P.sub "NoWord" "NoDay" = false := rfl
@[simp] theorem sub_NoWord_NoJoin : P.sub "NoWord" "NoJoin" = false := rfl
@[simp] theorem sub_NoWord_NoKey : P.sub "NoWord" "NoKey" = false := rfl
@[simp] theorem sub_NoWord_NoLine : P.sub "NoWord" "NoLine" = false := rfl
@[simp] theorem sub_NoWord_NoPart : P.sub "NoWord" "NoPart" = false := rfl
@[simp] theorem sub_NoWord_NoPrice : P.sub "NoWord" "NoPrice" = false := rfl
@[simp] theorem sub_NoWord_NoSteps : P.sub "NoWord" "NoSteps" = false := rfl
@[simp] theorem sub_NoWord_NoWord : P.sub "NoWord" "NoWord" = true := rfl
@[simp] theorem sub_NoWord_Stopped : P.sub "NoWord" "Stopped" = false := rfl
@[simp] theorem sub_NoWord_TooDeep : P.sub "NoWord" "TooDeep" = false := rfl
@[simp] theorem sub_NoWord_TooMany : P.sub "NoWord" "TooMany" = false := rfl
@[simp] theorem sub_Stopped_BadAsks : P.sub "Stopped" "BadAsks" = false := rfl
@[simp] theorem sub_Stopped_BadBeneath : P.sub "Stopped" "BadBeneath" = false := rfl
@[simp] theorem sub_Stopped_BadOffers : P.sub "Stopped" "BadOffers" = false := rfl
@[simp] theorem sub_Stopped_BadTerms : P.sub "Stopped" "BadTerms" = false := rfl
@[simp] theorem sub_Stopped_BadText : P.sub "Stopped" "BadText" = false := rfl
@[simp] theorem sub_Stopped_Doubled : P.sub "Stopped" "Doubled" = false := rfl
@[simp] theorem sub_Stopped_GrantError : P.sub "Stopped" "GrantError" = true := rfl
@[simp] theorem sub_Stopped_NoChoice : P.sub "Stopped" "NoChoice" = false := rfl
@[simp] theorem sub_Stopped_NoDay : P.sub "Stopped" "NoDay" = false := rfl
@[simp] theorem sub_Stopped_NoJoin : P.sub "Stopped" "NoJoin" = false := rfl
@[simp] theorem sub_Stopped_NoKey : P.sub "Stopped" "NoKey" = false := rfl
@[simp] theorem sub_Stopped_NoLine : P.sub "Stopped" "NoLine" = false := rfl
@[simp] theorem sub_Stopped_NoPart : P.sub "Stopped" "NoPart" = false := rfl
@[simp] theorem sub_Stopped_NoPrice : P.sub "Stopped" "NoPrice" = false := rfl
@[simp] theorem sub_Stopped_NoSteps : P.sub "Stopped" "NoSteps" = false := rfl
@[simp] theorem sub_Stopped_NoWord : P.sub "Stopped" "NoWord" = false := rfl
@[simp] theorem sub_Stopped_Stopped : P.sub "Stopped" "Stopped" = true := rfl
@[simp] theorem sub_Stopped_TooDeep : P.sub "Stopped" "TooDeep" = false := rfl
@[simp] theorem sub_Stopped_TooMany : P.sub "Stopped" "TooMany" = false := rfl
@[simp] theorem sub_TooDeep_BadAsks : P.sub "TooDeep" "BadAsks" = false := rfl
@[simp] theorem sub_TooDeep_BadBeneath : P.sub "TooDeep" "BadBeneath" = false := rfl
@[simp] theorem sub_TooDeep_BadOffers : P.sub "TooDeep" "BadOffers" = false := rfl
@[simp] theorem sub_TooDeep_BadTerms : P.sub "TooDeep" "BadTerms" = false := rfl
@[simp] theorem sub_TooDeep_BadText : P.sub "TooDeep" "BadText" = false := rfl
@[simp] theorem sub_TooDeep_Doubled : P.sub "TooDeep" "Doubled" = false := rfl
@[simp] theorem sub_TooDeep_GrantError : P.sub "TooDeep" "GrantError" = true := rfl
@[simp] theorem sub_TooDeep_NoChoice : P.sub "TooDeep" "NoChoice" = false := rfl
@[simp] theorem sub_TooDeep_NoDay : P.sub "TooDeep" "NoDay" = false := rfl
@[simp] theorem sub_TooDeep_NoJoin : P.sub "TooDeep" "NoJoin" = false := rfl
@[simp] theorem sub_TooDeep_NoKey : P.sub "TooDeep" "NoKey" = false := rfl
@[simp] theorem sub_TooDeep_NoLine : P.sub "TooDeep" "NoLine" = false := rfl
@[simp] theorem sub_TooDeep_NoPart : P.sub "TooDeep" "NoPart" = false := rfl
@[simp] theorem sub_TooDeep_NoPrice : P.sub "TooDeep" "NoPrice" = false := rfl
@[simp] theorem sub_TooDeep_NoSteps : P.sub "TooDeep" "NoSteps" = false := rfl
@[simp] theorem sub_TooDeep_NoWord : P.sub "TooDeep" "NoWord" = false := rfl
@[simp] theorem sub_TooDeep_Stopped : P.sub "TooDeep" "Stopped" = false := rfl
@[simp] theorem sub_TooDeep_TooDeep : P.sub "TooDeep" "TooDeep" = true := rfl
@[simp] theorem sub_TooDeep_TooMany : P.sub "TooDeep" "TooMany" = false := rfl
@[simp] theorem sub_TooMany_BadAsks : P.sub "TooMany" "BadAsks" = false := rfl
@[simp] theorem sub_TooMany_BadBeneath : P.sub "TooMany" "BadBeneath" = false := rfl
@[simp] theorem sub_TooMany_BadOffers : P.sub "TooMany" "BadOffers" = false := rfl
@[simp] theorem sub_TooMany_BadTerms : P.sub "TooMany" "BadTerms" = false := rfl
@[simp] theorem sub_TooMany_BadText : P.sub "TooMany" "BadText" = false := rfl
@[simp] theorem sub_TooMany_Doubled : P.sub "TooMany" "Doubled" = false := rfl
@[simp] theorem sub_TooMany_GrantError : P.sub "TooMany" "GrantError" = true := rfl
@[simp] theorem sub_TooMany_NoChoice : P.sub "TooMany" "NoChoice" = false := rfl
@[simp] theorem sub_TooMany_NoDay : P.sub "TooMany" "NoDay" = false := rfl
@[simp] theorem sub_TooMany_NoJoin : P.sub "TooMany" "NoJoin" = false := rfl
@[simp] theorem sub_TooMany_NoKey : P.sub "TooMany" "NoKey" = false := rfl
@[simp] theorem sub_TooMany_NoLine : P.sub "TooMany" "NoLine" = false := rfl
@[simp] theorem sub_TooMany_NoPart : P.sub "TooMany" "NoPart" = false := rfl
@[simp] theorem sub_TooMany_NoPrice : P.sub "TooMany" "NoPrice" = false := rfl
@[simp] theorem sub_TooMany_NoSteps : P.sub "TooMany" "NoSteps" = false := rfl
@[simp] theorem sub_TooMany_NoWord : P.sub "TooMany" "NoWord" = false := rfl
@[simp] theorem sub_TooMany_Stopped : P.sub "TooMany" "Stopped" = false := rfl
@[simp] theorem sub_TooMany_TooDeep : P.sub "TooMany" "TooDeep" = false := rfl
@[simp] theorem sub_TooMany_TooMany : P.sub "TooMany" "TooMany" = true := rfl

end Hk04
namespace Hk04
open VS
structure Bx where
  a : Int
  b : Int
  c : Int
def bx (β : Bx) : D := .node true .lst [.int β.a, .int β.b, .int β.c]
@[simp] theorem bx_bel (β : Bx) (n : Nat) : (bx β).bel n = true := by simp [bx]
@[simp] theorem bx_nc (β : Bx) : (bx β).nc = true := by simp [bx]
@[simp] theorem bx_al (β : Bx) : (bx β).al = false := rfl
def mixF (x k : Int) : Int :=
  let n := (x % 2147483629 * 48271 + 7919 * k + 101) % 2147483647
  let n2 := (n * n + 104729 * k + 7) % 2147483629
  n2 * n2 % 2147483587
def mixM (x k : Int) : Nat := (mixF x k).toNat
theorem mix_cast (x k : Int) : mixF x k = (mixM x k : Int) := by
  have : 0 ≤ mixF x k := Int.emod_nonneg _ (by omega)
  unfold mixM; omega
def tkN (β : Bx) (n : Int) : Int := if 0 < β.a then β.a % n else mixF β.b (β.c + 1) % n
def tkM (β : Bx) (n : Int) : Nat := (tkN β n).toNat
def tkB (β : Bx) (n : Int) : Bx := if 0 < β.a then ⟨β.a / n, β.b, β.c⟩ else ⟨β.a, β.b, β.c + 1⟩
theorem tkN_ge (β : Bx) {n : Int} (h : 0 < n) : 0 ≤ tkN β n := by
  unfold tkN; split <;> exact Int.emod_nonneg _ (by omega)
theorem tk_cast (β : Bx) {n : Int} (h : 0 < n) : tkN β n = (tkM β n : Int) := by
  have := tkN_ge β h
  unfold tkM; omega
theorem tkM_lt (β : Bx) {n : Int} (h : 0 < n) : (tkM β n : Int) < n := by
  rw [← tk_cast β h]
  unfold tkN; split <;> exact Int.emod_lt_of_pos _ h
theorem tkM_nat (β : Bx) (n : Nat) (h : 0 < n) : tkM β (n : Int) < n := by
  have := tkM_lt β (n := (n : Int)) (by omega)
  omega
theorem tkX (β : Bx) (n : Nat) (h : 0 < n) : ∃ t β', tkM β (n : Int) = t ∧ tkB β (n : Int) = β' ∧ t < n := ⟨_, _, rfl, rfl, tkM_nat β n h⟩
@[simp] theorem mixed (j : Nat) (x k : Int) (m : Mem) (hm : tidy m.length m = true) : run P (j + 1) false "_law_mixed" [.int x, .int k] m = .ok (.int (mixM x k)) m := by
  rw [← mix_cast, run_f j _ c__law_mixed _ _ rfl rfl rfl]
  have m1 : mulOk (x % 2147483629) 48271 := mulOk_r (by omega) (by omega)
  have m2 : mulOk 7919 k := mulOk_l (by omega) (by omega)
  have m3 : mulOk ((x % 2147483629 * 48271 + 7919 * k + 101) % 2147483647) ((x % 2147483629 * 48271 + 7919 * k + 101) % 2147483647) := mulOk_l (by omega) (by omega)
  have m4 : mulOk 104729 k := mulOk_l (by omega) (by omega)
  have m5 : ∀ y : Int, mulOk (y % 2147483629) (y % 2147483629) := fun y => mulOk_l (by omega) (by omega)
  simp [c__law_mixed, m1, m2, m3, m4, m5, hm, mixF]
def tkOk (n : Int) : Bool := decide (0 < n) && decide (n < 1606938044258990275541962092341162602522202993782792835301376)
theorem tkOk_iff {n : Int} : tkOk n = true ↔ 0 < n ∧ n < 1606938044258990275541962092341162602522202993782792835301376 := by simp [tkOk]
theorem tkOk_le {n : Int} (h : 0 < n) (h2 : n < 18446744073709551616) : tkOk n = true := tkOk_iff.mpr ⟨h, by omega⟩
@[simp] theorem tkOk_1 : tkOk 1 = true := by decide
@[simp] theorem tkOk_2 : tkOk 2 = true := by decide
@[simp] theorem tkOk_3 : tkOk 3 = true := by decide
@[simp] theorem tkOk_4 : tkOk 4 = true := by decide
@[simp] theorem tkOk_5 : tkOk 5 = true := by decide
@[simp] theorem tkOk_6 : tkOk 6 = true := by decide
@[simp] theorem tkOk_7 : tkOk 7 = true := by decide
@[simp] theorem tkOk_8 : tkOk 8 = true := by decide
@[simp] theorem tkOk_9 : tkOk 9 = true := by decide
@[simp] theorem tkOk_10 : tkOk 10 = true := by decide
@[simp] theorem tkOk_11 : tkOk 11 = true := by decide
@[simp] theorem tkOk_12 : tkOk 12 = true := by decide
@[simp] theorem tkOk_13 : tkOk 13 = true := by decide
@[simp] theorem tkOk_14 : tkOk 14 = true := by decide
@[simp] theorem tkOk_15 : tkOk 15 = true := by decide
@[simp] theorem tkOk_16 : tkOk 16 = true := by decide
@[simp] theorem tkOk_20 : tkOk 20 = true := by decide
@[simp] theorem tkOk_24 : tkOk 24 = true := by decide
@[simp] theorem tkOk_25 : tkOk 25 = true := by decide
@[simp] theorem tkOk_26 : tkOk 26 = true := by decide
@[simp] theorem tkOk_28 : tkOk 28 = true := by decide
@[simp] theorem tkOk_30 : tkOk 30 = true := by decide
@[simp] theorem tkOk_32 : tkOk 32 = true := by decide
@[simp] theorem tkOk_36 : tkOk 36 = true := by decide
@[simp] theorem tkOk_40 : tkOk 40 = true := by decide
@[simp] theorem tkOk_48 : tkOk 48 = true := by decide
@[simp] theorem tkOk_50 : tkOk 50 = true := by decide
@[simp] theorem tkOk_60 : tkOk 60 = true := by decide
@[simp] theorem tkOk_64 : tkOk 64 = true := by decide
@[simp] theorem tkOk_80 : tkOk 80 = true := by decide
@[simp] theorem tkOk_94 : tkOk 94 = true := by decide
@[simp] theorem tkOk_95 : tkOk 95 = true := by decide
@[simp] theorem tkOk_100 : tkOk 100 = true := by decide
@[simp] theorem tkOk_128 : tkOk 128 = true := by decide
@[simp] theorem tkOk_256 : tkOk 256 = true := by decide
@[simp] theorem tkOk_512 : tkOk 512 = true := by decide
@[simp] theorem tkOk_1000 : tkOk 1000 = true := by decide
@[simp] theorem tkOk_1024 : tkOk 1024 = true := by decide
@[simp] theorem tkOk_10000 : tkOk 10000 = true := by decide
@[simp] theorem tkOk_1000001 : tkOk 1000001 = true := by decide
@[simp] theorem take0 (k : Nat) (β : Bx) (n : Int) (r : Mem) (ho : tkOk n = true) (hm : tidy (r.length + 1) r = true) :
    run P (k + 2) false "_law_take" [.cell 0, .int n] (bx β :: r) = .ok (.int (tkM β n)) (bx (tkB β n) :: r) := by
  obtain ⟨hn, hl⟩ := tkOk_iff.mp ho
  rw [← tk_cast β hn, run_f (k + 1) _ c__law_take _ _ rfl rfl rfl]
  have e2 : divOk n := ⟨hn, log2_lim hn hl⟩
  by_cases ha : 0 < β.a
  · simp [c__law_take, bx, ha, hn, e2, tkN, tkB, hm]
  · simp [c__law_take, bx, ha, hn, e2, tkN, tkB, hm, mix_cast]
@[simp] theorem take1 (k : Nat) (β : Bx) (n : Int) (x : D) (r : Mem) (ho : tkOk n = true) (hx : x.bel (r.length + 2) = true) (hm : tidy (r.length + 2) r = true) :
    run P (k + 2) false "_law_take" [.cell 1, .int n] (x :: bx β :: r) = .ok (.int (tkM β n)) (x :: bx (tkB β n) :: r) := by
  obtain ⟨hn, hl⟩ := tkOk_iff.mp ho
  rw [← tk_cast β hn, run_f (k + 1) _ c__law_take _ _ rfl rfl rfl]
  have e2 : divOk n := ⟨hn, log2_lim hn hl⟩
  by_cases ha : 0 < β.a
  · simp [c__law_take, bx, ha, hn, e2, tkN, tkB, hm, hx]
  · simp [c__law_take, bx, ha, hn, e2, tkN, tkB, hm, hx, mix_cast]
def boxF (x : Int) : Bx := ⟨if 1000000000000000000 ≤ x then x else 0, x % 2147483647, 0⟩
@[simp] theorem box_ok (k : Nat) (x : Int) (m : Mem) (hm : tidy m.length m = true) : run P (k + 1) false "_law_box" [.int x] m = .ok (bx (boxF x)) m := by
  rw [run_f k _ c__law_box _ _ rfl rfl rfl]
  have e1 : shOk 10 18 := ⟨by omega, by omega, by decide⟩
  by_cases h : 1000000000000000000 ≤ x
  · have h' : (10 : Int) ^ (18 : Int).toNat ≤ x := h
    simp [c__law_box, e1, bx, boxF, h, h', hm]
  · have h' : ¬ (10 : Int) ^ (18 : Int).toNat ≤ x := h
    simp [c__law_box, e1, bx, boxF, h, h', hm]
def cellF (zs : List Int) (i : Nat) : Int := if i < zs.length then zs.getD i 0 else 7919 * i + 13
@[simp] theorem cell_ok (k : Nat) (zs : List Int) (i : Nat) (m : Mem) (hm : tidy m.length m = true) : run P (k + 1) false "_law_cell" [.node false .slst (zs.map D.int), .int i] m = .ok (.int (cellF zs i)) m := by
  rw [run_f k _ c__law_cell _ _ rfl rfl rfl]
  have m1 : mulOk 7919 i := mulOk_l (by omega) (by omega)
  by_cases h : i < zs.length
  · have h' : (i : Int) < zs.length := by omega
    simp [c__law_cell, h, h', hm, cellF]
  · have h' : ¬ (i : Int) < zs.length := by omega
    simp [c__law_cell, h, h', hm, cellF, m1]
@[simp] theorem cell_0 (k : Nat) (zs : List Int) (m : Mem) (hm : tidy m.length m = true) : run P (k + 1) false "_law_cell" [.node false .slst (zs.map D.int), .int 0] m = .ok (.int (cellF zs 0)) m := cell_ok k zs 0 m hm
@[simp] theorem cell_1 (k : Nat) (zs : List Int) (m : Mem) (hm : tidy m.length m = true) : run P (k + 1) false "_law_cell" [.node false .slst (zs.map D.int), .int 1] m = .ok (.int (cellF zs 1)) m := cell_ok k zs 1 m hm
@[simp] theorem cell_2 (k : Nat) (zs : List Int) (m : Mem) (hm : tidy m.length m = true) : run P (k + 1) false "_law_cell" [.node false .slst (zs.map D.int), .int 2] m = .ok (.int (cellF zs 2)) m := cell_ok k zs 2 m hm
end Hk04
namespace Hk04
open VS
abbrev LET : List Nat := [97, 98, 99, 100, 101, 102, 103, 104, 105, 106, 107, 108, 109, 110, 111, 112, 113, 114, 115, 116, 117, 118, 119, 120, 121, 122]
theorem letter_idx {i : Int} (h0 : 0 ≤ i) (h1 : i < 26) : ∃ c, c ∈ LET ∧ idxD (.str LET) (.int i) = some (.str [c]) := by
  refine ⟨LET.getD i.toNat 0, ?_, idx_str h0 (by simpa using h1) (by simp)⟩
  have h2 : i.toNat < 26 := by omega
  generalize i.toNat = j at h2
  revert j; decide
theorem strs_one (l : List Nat) : strs? (l.map fun c => D.str [c]) = some (l.map fun c => [c]) := by
  induction l with
  | nil => rfl
  | cons a r ih => simp [ih]
theorem join_one (l : List Nat) : joinL [] (l.map fun c => [c]) = l := by
  induction l with
  | nil => rfl
  | cons a r ih =>
    cases r with
    | nil => rfl
    | cons b r => simp only [List.map_cons, joinL] at *; simp [ih]
theorem lenSum_one (l : List Nat) : lenSum (l.map fun c => [c]) = l.length := by
  induction l with
  | nil => rfl
  | cons a r ih => simp [lenSum, ih]; omega
theorem word_base (k n : Nat) (S : D) (o2 o3 : Option D) : ∀ (r : List D) (β : Bx) (l : List Nat) (o : Option D), (∀ z ∈ r, z.al = true) → l.length + r.length ≤ 100 → ∃ (l' : List Nat) (β' : Bx) (o' : Option D),
    lcB (P.cl (run P (k + 2)) n) q__law_things_1 (.nm 4) (.cn (.bl true)) [4] r (l.map fun c => .str [c]) ⟨[some S, some (.cell 0), o2, o3, o], [bx β]⟩ =
      .ok (l'.map fun c => .str [c]) ⟨[some S, some (.cell 0), o2, o3, o'], [bx β']⟩ ∧ l'.length = l.length + r.length
  | [], β, l, o, _, _ => ⟨l, β, o, rfl, by simp⟩
  | z :: r, β, l, o, hr, hl => by
    simp only [List.length_cons] at hl
    obtain ⟨c, hc, ec⟩ := letter_idx (i := (tkM β 26 : Int)) (by omega) (tkM_lt β (by omega))
    obtain ⟨l', β', o', e, h2⟩ := word_base k n S o2 o3 r (tkB β 26) (l ++ [c]) (some z) (fun y hy => hr y (by simp [hy])) (by simp; omega)
    refine ⟨l', β', o', ?_, by simp at h2; simp; omega⟩
    rw [← e]
    rw [List.map_append]
    refine lcB_some (st1 := ⟨[some S, some (.cell 0), o2, o3, some z], [bx β]⟩) ?_ ?_ (by simp; omega)
    · simp
    · simp [lcT_eq, q__law_things_1, ec]
/-- what is handed in -/
inductive Gd4 : D → Prop where
  | str (w : List Nat) (h : w.length ≤ 8) : Gd4 (.str w)
  | int (i : Int) : Gd4 (.int i)
  | tup (w : List Nat) (i : Int) (h : w.length ≤ 8) : Gd4 (.node false .tup [.str w, .int i])
  | lst (w : List Nat) (h : w.length ≤ 8) : Gd4 (.node false .lst [.str w])
  | non : Gd4 .non
  | tru : Gd4 (.bl true)
  | dct (w : List Nat) (i : Int) (h : w.length ≤ 8) : Gd4 (.node false (.dK [.s w]) [.int i])
theorem things (k : Nat) (zs : List Int) : ∃ d, run P (k + 3) false "_law_things" [.node false .slst (zs.map D.int)] [] = .ok d [] ∧ Gd4 d := by
  obtain ⟨t1, β1, e1, f1, l1⟩ := tkX (boxF (cellF zs 0)) 9 (by omega)
  obtain ⟨w, β2, o', e, h2⟩ := word_base k 0 (.node false .slst (zs.map D.int)) none none (rngL 0 t1) β1 [] none (by rw [rngL_map]; intro z hz; obtain ⟨q, _, rfl⟩ := List.mem_map.mp hz; rfl) (by rw [rngL_map]; simp; omega)
  rw [rngL_map] at h2
  simp at h2 e1 f1
  have h2 : w.length ≤ 8 := by omega
  have s1 : small62 (t1 : Int) := ⟨by omega, by omega⟩
  have z2 : w.length ≤ 16777216 := by omega
  have p1 : shOk 10 20 := ⟨by omega, by omega, by decide⟩
  have p2 : (10 : Int) ^ (20 : Int).toNat = 100000000000000000000 := by decide
  have p3 : mulOk 2 100000000000000000000 := mulOk_l (by omega) (by omega)
  have p4 : tkOk 200000000000000000000 = true := by decide
  simp at e
  generalize hx : (tkM β2 200000000000000000000 : Int) - 100000000000000000000 = x
  generalize hβ : tkB β2 200000000000000000000 = β3
  obtain ⟨t4, β4, e4, f4, l4⟩ := tkX β3 7 (by omega)
  simp at e4 f4
  have hh : t4 = 0 ∨ t4 = 1 ∨ t4 = 2 ∨ t4 = 3 ∨ t4 = 4 ∨ t4 = 5 ∨ t4 = 6 := by omega
  have main : ∀ d, idxD (.node true .lst [.str w, .int x, .node false .tup [.str w, .int x], .node false .lst [.str w], .non, .bl true, .node false (.dK [.s w]) [.int x]]) (.int (t4 : Int)) = some d → d.al = true → (∀ st, handed d st 0 = some d) → run P (k + 3) false "_law_things" [.node false .slst (zs.map D.int)] [] = .ok d [] := by
    intro d hd hal hb
    rw [run_f (k + 2) _ c__law_things _ _ rfl rfl rfl]
    simp [c__law_things, e1, f1, s1, e, ownOk, strs_one, join_one, lenSum_one, z2, restore, p1, p2, p3, p4, hx, hβ, e4, f4, hd, hal, hb]
  rcases hh with rfl | rfl | rfl | rfl | rfl | rfl | rfl
  · exact ⟨_, main _ rfl rfl (fun _ => by simp), .str w h2⟩
  · exact ⟨_, main _ rfl rfl (fun _ => by simp), .int x⟩
  · exact ⟨_, main _ rfl rfl (fun _ => by simp), .tup w x h2⟩
  · exact ⟨_, main _ rfl rfl (fun _ => by simp), .lst w h2⟩
  · exact ⟨_, main _ rfl rfl (fun _ => by simp), .non⟩
  · exact ⟨_, main _ rfl rfl (fun _ => by simp), .tru⟩
  · exact ⟨_, main _ rfl rfl (fun _ => by simp), .dct w x h2⟩
end Hk04
namespace Hk04
open VS
abbrev XS : List (String × String) := [("NoWord", "found"), ("NoKey", "found"), ("NoJoin", "found"), ("NoPart", "found"), ("NoDay", "found"), ("NoPrice", "found"), ("NoSteps", "found"), ("NoChoice", "found"), ("NoLine", "found"), ("BadTerms", "found"), ("BadAsks", "found"), ("BadOffers", "found"), ("BadBeneath", "found"), ("Doubled", "name"), ("Stopped", "name"), ("TooMany", "many"), ("TooDeep", "many"), ("BadText", "line")]
def itm (d : D) (p : String × String) : D := .node false (.exc p.1) [.node false (.xd [p.2]) [d]]
def xmkE (c : String) (d : D) (st : Sg) : Option (List String) → Rs D
  | some [f] => if d.nc then .ok (.node false (.exc c) [.node false (.xd [f]) [d.frz]]) st else .bad
  | _ => .bad
@[simp] theorem xmkR_one (F : Cl) (c : String) (d : D) (st : Sg) : xmkR F c [d] st = xmkE c d st (F.exc c) := by
  unfold xmkR xmkE
  split <;> rename_i h <;> simp_all
@[simp] theorem xmkE_some (c f : String) (d : D) (st : Sg) : xmkE c d st (some [f]) = if d.nc then .ok (.node false (.exc c) [.node false (.xd [f]) [d.frz]]) st else .bad := id rfl
@[simp] theorem isi_exc_ve (F : Cl) (o p : Bool) (c : String) (ns : List String) (xs : List D) : isiD F (.node o (.exc c) [.node p (.xd ns) xs]) .ve = some true := id rfl
theorem Gd4.al {d : D} (h : Gd4 d) : d.al = true := by cases h <;> rfl
theorem Gd4.sh {d : D} (h : Gd4 d) : d.sh = true := by cases h <;> simp
theorem founds (k : Nat) (d : D) (h : d.sh = true) (m : Mem) (hm : tidy m.length m = true) : run P (k + 1) false "_law_founds" [d] m = .ok (.node false .lst (XS.map (itm d))) m := by
  have h1 := al_of_sh h
  have h2 := nc_of_sh h
  have h3 := frz_of_sh h
  rw [run_f k _ c__law_founds _ _ rfl rfl rfl]
  simp [c__law_founds, h1, h2, h3, h, hm, XS, itm, bel_of_nc]
theorem kinds (k : Nat) (d : D) (i : Nat) (p : String × String) (hp : XS[i]? = some p) (m : Mem) (hm : tidy m.length m = true) : run P (k + 1) false "_law_kinds" [itm d p] m = .ok (.node false .lst ((List.range 18).map fun j => .bl (decide (j = i)))) m := by
  have hi : i < 18 := by
    have := (List.getElem?_eq_some_iff.mp hp).1
    simpa using this
  rw [run_f k _ c__law_kinds _ _ rfl rfl rfl]
  have hh : i = 0 ∨ i = 1 ∨ i = 2 ∨ i = 3 ∨ i = 4 ∨ i = 5 ∨ i = 6 ∨ i = 7 ∨ i = 8 ∨ i = 9 ∨ i = 10 ∨ i = 11 ∨ i = 12 ∨ i = 13 ∨ i = 14 ∨ i = 15 ∨ i = 16 ∨ i = 17 := by omega
  rcases hh with rfl | rfl | rfl | rfl | rfl | rfl | rfl | rfl | rfl | rfl | rfl | rfl | rfl | rfl | rfl | rfl | rfl | rfl <;> (simp [XS] at hp; subst hp; simp [c__law_kinds, itm, hm, List.range_succ])
end Hk04
namespace Hk04
open VS
theorem ne_self (d : D) (h : Gd4 d) : copD .ne d d = some false := by
  cases h with
  | str w h => exact copne_self (by simp)
  | int i => exact copne_self (by simp)
  | tup w i h => exact copne_self (by simp)
  | lst w h => exact copne_self (by simp)
  | non => exact copne_self (by simp)
  | tru => exact copne_self (by simp)
  | dct w i h => simp [copD, copY, D.eqv, D.eqvL, D.okE, unK]
theorem eq_rows (d : D) (h : Gd4 d) (o p : Bool) : copD .eq (.node o .lst [d, d, d, d, d]) (.node p .lst [d, d, d, d, d]) = some true := by
  cases h with
  | dct w i h => simp [copD, copX, D.eqv, D.eqvL, D.okE, D.okEL]
  | _ => simp [copD, D.okE, D.okEL, D.eqD, D.eqL]
theorem isb (F : Cl) (d : D) (h : Gd4 d) : ∃ b, isiD F d .bool = some b := by
  cases h <;> simp
theorem eq_row18 (i : Nat) (o p : Bool) : copD .ne (.node o .lst ((List.range 18).map fun j => .bl (decide (j = i)))) (.node p .lst ((List.range 18).map fun j => .bl (decide (j = i)))) = some false := by
  simp [List.range_succ, D.eqL]
theorem cmp18 (k n : Nat) (S d : D) (L e : D) (i : Nat) : (evx (P.cl (run P k) n) (.cmpr q_law_1 (.nm 5) (.rng1 (.cn (.int 18))) (.cn (.bl true)) [5])).v ⟨[some S, some d, some L, some (.int (i : Int)), some e, none], []⟩ =
    .ok (.node true .lst ((List.range 18).map fun j => .bl (decide (j = i)))) ⟨[some S, some d, some L, some (.int (i : Int)), some e, none], []⟩ := by
  have s18 : small62 18 := ⟨by omega, by omega⟩
  have h := v_cmpr_map (F := P.cl (run P k) n) (elt := q_law_1) (tg := .nm 5) (it := .rng1 (.cn (.int 18))) (cond := .cn (.bl true)) (own := [5]) (m := []) (sl := [some S, some d, some L, some (.int (i : Int)), some e, none]) (st0 := ⟨[some S, some d, some L, some (.int (i : Int)), some e, none], []⟩) (fun (j : Nat) => D.int (j : Int)) (fun j => some (.bl (decide (j = i)))) (List.range 18)
    (by simp [s18, rngL_from0]) (by simp [ownOk]) (by simp) (fun j hj => ⟨⟨[some S, some d, some L, some (.int (i : Int)), some e, some (.int (j : Int))], []⟩, [some S, some d, some L, some (.int (i : Int)), some e, some (.int (j : Int))], by simp, by
      have : (decide ((j : Int) = (i : Int))) = decide (j = i) := by
        by_cases hh : j = i
        · simp [hh]
        · have : ¬ ((j : Int) = (i : Int)) := by omega
          simp [hh, this]
      simp [lcT_eq, q_law_1, this], by simp⟩)
  rw [h]
  simp [restore]
end Hk04
namespace Hk04
open VS
theorem sub_all (i : Nat) (p : String × String) (hp : XS[i]? = some p) : P.sub p.1 "GrantError" = true := by
  have hm : p ∈ XS := List.mem_of_getElem? hp
  simp [XS] at hm
  rcases hm with rfl | rfl | rfl | rfl | rfl | rfl | rfl | rfl | rfl | rfl | rfl | rfl | rfl | rfl | rfl | rfl | rfl | rfl <;> rfl
theorem turn2 (k n : Nat) (S d L : D) (i : Nat) (p : String × String) (hp : XS[i]? = some p) (h : Gd4 d) :
    xss (P.cl (run P (k + 1)) n) b_law_2 ⟨[some S, some d, some L, some (.int (i : Int)), some (itm d p), none], []⟩ = .nx ⟨[some S, some d, some L, some (.int (i : Int)), none, none], []⟩ := by
  have q := kinds k d i p hp [] rfl
  have c := cmp18 (k + 1) n S d L (itm d p) i
  have e := eq_row18 i false true
  have g1 : ∀ F : Cl, isiD F (itm d p) (.cls "GrantError") = some (F.sub p.1 "GrantError") := fun F => id rfl
  have g2 : ∀ F : Cl, isiD F (itm d p) .ve = some true := fun F => id rfl
  have g3 := sub_all i p hp
  have a1 : (itm d p).al = true := rfl
  have a2 : ∀ m, drf m (itm d p) = itm d p := fun _ => id rfl
  simp [b_law_2, q, c, e, g1, g2, g3, a1, a2, -v_cmpr, -cop_ne, -cop_eq]
theorem turn1 (k n : Nat) (S d L : D) (i : Nat) (c : String) (h : Gd4 d) (hL : ∀ m, drf m L = L) (hc : idxD L (.int (i : Int)) = some (.node false (.exc c) [.node false (.xd ["found"]) [d]])) :
    xss (P.cl (run P k) n) b_law_1 ⟨[some S, some d, some L, some (.int (i : Int)), none, none], []⟩ = .nx ⟨[some S, some d, some L, none, none, none], []⟩ := by
  have e := ne_self d h
  obtain ⟨b, hb⟩ := isb (P.cl (run P k) n) d h
  have h1 := h.al
  have a2 : ∀ m, drf m d = d := fun m => by cases h <;> rfl
  have e2 : ∀ b : Bool, copD .ne (.bl b) (.bl b) = some false := fun b => copne_self (by simp)
  cases b <;> simp [b_law_1, hL, hc, e, e2, hb, h1, a2, -cop_ne, -cop_eq]
theorem at13 (d : D) (i : Nat) (hi : i < 13) : ∃ c, idxD (.node false .lst (XS.map (itm d))) (.int (i : Int)) = some (.node false (.exc c) [.node false (.xd ["found"]) [d]]) := by
  have hh : i = 0 ∨ i = 1 ∨ i = 2 ∨ i = 3 ∨ i = 4 ∨ i = 5 ∨ i = 6 ∨ i = 7 ∨ i = 8 ∨ i = 9 ∨ i = 10 ∨ i = 11 ∨ i = 12 := by omega
  rcases hh with rfl | rfl | rfl | rfl | rfl | rfl | rfl | rfl | rfl | rfl | rfl | rfl | rfl <;> exact ⟨_, rfl⟩
theorem pure (zs : List Int) (hz : zs.length ≤ 63) : run P 30 false "law" [.node false .slst (zs.map D.int)] [] = .ok (.bl true) [] := by
  obtain ⟨d, e, h⟩ := things 26 zs
  have f := founds 28 d h.sh [] rfl
  have h1 := h.al
  have h4 := h.sh
  have h2 := nc_of_sh h4
  have h3 := frz_of_sh h4
  have hS : (D.node false Kn.lst (XS.map (itm d))).al = true := rfl
  have l2 : ∃ st', loopB (P.cl (run P 29) 0) (.tup [.nm 3, .nm 4]) b_law_2 (enumL 0 (XS.map (itm d))) ⟨[some (.node false .slst (zs.map D.int)), some d, some (.node false .lst (XS.map (itm d))), none, none, none], []⟩ = .nx st' ∧ ∃ o3, st' = ⟨[some (.node false .slst (zs.map D.int)), some d, some (.node false .lst (XS.map (itm d))), o3, none, none], []⟩ := by
    refine loop_inv (fun st => ∃ o3, st = ⟨[some (.node false .slst (zs.map D.int)), some d, some (.node false .lst (XS.map (itm d))), o3, none, none], []⟩) _ ?_ _ ⟨none, rfl⟩
    rintro x hx st ⟨o3, rfl⟩
    rw [enumL_zip0] at hx
    obtain ⟨⟨p, i⟩, hp, rfl⟩ := List.mem_map.mp hx
    have hp : XS[i]? = some p := by simpa using List.mem_zipIdx_iff_getElem?.mp hp
    have a1 : (itm d p).al = true := rfl
    refine ⟨_, _, ?_, turn2 28 0 (.node false .slst (zs.map D.int)) d _ i p hp h, _, rfl⟩
    simp [a1]
  obtain ⟨_, l2, o3, rfl⟩ := l2
  have l1 : ∀ o3, ∃ st', loopB (P.cl (run P 29) 0) (.nm 3) b_law_1 (rngL 0 13) ⟨[some (.node false .slst (zs.map D.int)), some d, some (.node false .lst (XS.map (itm d))), o3, none, none], []⟩ = .nx st' ∧ ∃ o3, st' = ⟨[some (.node false .slst (zs.map D.int)), some d, some (.node false .lst (XS.map (itm d))), o3, none, none], []⟩ := by
    intro o3
    refine loop_inv (fun st => ∃ o3, st = ⟨[some (.node false .slst (zs.map D.int)), some d, some (.node false .lst (XS.map (itm d))), o3, none, none], []⟩) _ ?_ _ ⟨o3, rfl⟩
    rintro x hx st ⟨o3, rfl⟩
    rw [rngL_from0] at hx
    obtain ⟨i, hi, rfl⟩ := List.mem_map.mp hx
    obtain ⟨c, hc⟩ := at13 d i (by simpa using hi)
    refine ⟨_, _, ?_, turn1 29 0 (.node false .slst (zs.map D.int)) d _ i c h (fun _ => rfl) hc, _, rfl⟩
    simp
  obtain ⟨_, l1, o4, rfl⟩ := l1 o3
  have s13 : small62 13 := ⟨by omega, by omega⟩
  have e13 : idxD (.node false .lst (XS.map (itm d))) (.int 13) = some (.node false (.exc "Doubled") [.node false (.xd ["name"]) [d]]) := rfl
  have e14 : idxD (.node false .lst (XS.map (itm d))) (.int 14) = some (.node false (.exc "Stopped") [.node false (.xd ["name"]) [d]]) := rfl
  have e15 : idxD (.node false .lst (XS.map (itm d))) (.int 15) = some (.node false (.exc "TooMany") [.node false (.xd ["many"]) [d]]) := rfl
  have e16 : idxD (.node false .lst (XS.map (itm d))) (.int 16) = some (.node false (.exc "TooDeep") [.node false (.xd ["many"]) [d]]) := rfl
  have e17 : idxD (.node false .lst (XS.map (itm d))) (.int 17) = some (.node false (.exc "BadText") [.node false (.xd ["line"]) [d]]) := rfl
  have sL : D.shL (XS.map (itm d)) = true := by simp [XS, itm, h4]
  have q5 := eq_rows d h true true
  have hr : rowE (.node false .lst (XS.map (itm d))) = some (XS.map (itm d)) := by rw [rowE_lst]; simp only [stay, sL, if_true]
  have hd0 : ∀ m, drf m (.node false .lst (XS.map (itm d))) = .node false .lst (XS.map (itm d)) := fun _ => rfl
  generalize hLL : D.node false Kn.lst (XS.map (itm d)) = L at *
  generalize XS.map (itm d) = ys at *
  rw [run_f 29 _ c_law _ _ rfl rfl rfl]
  simp [c_law, e, f, h1, h2, h3, h4, hS, hr, hd0, l2, l1, s13, e13, e14, e15, e16, e17, q5, stay, sL, repL, -cop_eq]
end Hk04
namespace Ek04
open PySem PySem.Spec PyProof.Rows L2 VS
def top (i : Nat) : Stmt := PySem.Challenge.pw_grantweave_k04_refusals_apart.main.body.getD i (.Pass ⟨0, 0, 0, 0⟩)
def topm (i j : Nat) : Stmt := match top i with
  | .ClassDef _ _ _ body _ _ _ _ _ _ _ => body.getD j (.Pass ⟨0, 0, 0, 0⟩)
  | s => s
def rows : List VS.Row := [⟨"_law_cell", none, top 21, [sn "_law_script", sn "_law_k"], [sn "_law_script", sn "_law_k"], Hk04.c__law_cell⟩,
  ⟨"_law_mixed", none, top 22, [sn "_law_cell_here", sn "_law_k"], [sn "_law_cell_here", sn "_law_k", sn "_law_number"], Hk04.c__law_mixed⟩,
  ⟨"_law_box", none, top 23, [sn "_law_cell_here"], [sn "_law_cell_here"], Hk04.c__law_box⟩,
  ⟨"_law_take", none, top 24, [sn "_law_box_here", sn "_law_many"], [sn "_law_box_here", sn "_law_many", sn "_law_number"], Hk04.c__law_take⟩,
  ⟨"_law_things", none, top 25, [sn "_law_script"], [sn "_law_script", sn "_law_box_here", sn "_law_word", sn "_law_number", sn "_law_k"], Hk04.c__law_things⟩,
  ⟨"_law_founds", none, top 26, [sn "_law_thing"], [sn "_law_thing", sn "_law_found"], Hk04.c__law_founds⟩,
  ⟨"_law_kinds", none, top 27, [sn "_law_e"], [sn "_law_e", sn "_law_found"], Hk04.c__law_kinds⟩,
  ⟨"law", none, top 28, [sn "_law_script"], [sn "_law_script", sn "_law_thing", sn "_law_some", sn "_law_k", sn "_law_e", sn "_law_j"], Hk04.c_law⟩]
abbrev nsT := Hk04.nsT
abbrev tsT := Hk04.tsT
abbrev cl := Hk04.cl
def fl : List String := ["line", "many", "name", "found"]
def ms : List String := []
def sm : List (String × String) := []
def xl : List VS.XcD := [⟨"NoWord", "found", "GrantError", topm 2 0, [sn "self", sn "found"]⟩, ⟨"NoKey", "found", "GrantError", topm 3 0, [sn "self", sn "found"]⟩, ⟨"NoJoin", "found", "GrantError", topm 4 0, [sn "self", sn "found"]⟩, ⟨"NoPart", "found", "GrantError", topm 5 0, [sn "self", sn "found"]⟩, ⟨"NoDay", "found", "GrantError", topm 6 0, [sn "self", sn "found"]⟩, ⟨"NoPrice", "found", "GrantError", topm 7 0, [sn "self", sn "found"]⟩, ⟨"NoSteps", "found", "GrantError", topm 8 0, [sn "self", sn "found"]⟩, ⟨"NoChoice", "found", "GrantError", topm 9 0, [sn "self", sn "found"]⟩, ⟨"NoLine", "found", "GrantError", topm 10 0, [sn "self", sn "found"]⟩, ⟨"BadTerms", "found", "GrantError", topm 11 0, [sn "self", sn "found"]⟩, ⟨"BadAsks", "found", "GrantError", topm 12 0, [sn "self", sn "found"]⟩, ⟨"BadOffers", "found", "GrantError", topm 13 0, [sn "self", sn "found"]⟩, ⟨"BadBeneath", "found", "GrantError", topm 14 0, [sn "self", sn "found"]⟩, ⟨"Doubled", "name", "GrantError", topm 15 0, [sn "self", sn "name"]⟩, ⟨"Stopped", "name", "GrantError", topm 16 0, [sn "self", sn "name"]⟩, ⟨"TooMany", "many", "GrantError", topm 17 0, [sn "self", sn "many"]⟩, ⟨"TooDeep", "many", "GrantError", topm 18 0, [sn "self", sn "many"]⟩, ⟨"BadText", "line", "GrantError", topm 19 0, [sn "self", sn "line"]⟩]
abbrev xa := Hk04.xaN
def fa : List He.Fa := faX rows nsT tsT cl fl xl xa
def fn : List He.DefD := ddX rows xl
abbrev R : PySem.W.OpenRow := PySem.W.OpenLaw.row PySem.Challenge.rw_grantweave_k04_refusals_apart
abbrev hk : PySem.W.Hook := hookV 4 fa fn (exB rows cl fl ms sm xl xa)
def ob (s : PySem.W.SharedT) : AlV := obsV 4 fa fn (exB rows cl fl ms sm xl xa) (HandSHeadRun.getT s)
theorem ob_eq (s : PySem.W.SharedT) : ob s = hk.obs s.abs := obsV_eq (HandSHeadRun.getT_eq s)
def loose : List PySem.Str := ([("__name__" : PySem.Str), ("_law_cell" : PySem.Str), ("_law_mixed" : PySem.Str), ("_law_box" : PySem.Str), ("_law_take" : PySem.Str), ("_law_things" : PySem.Str), ("_law_founds" : PySem.Str), ("_law_kinds" : PySem.Str), ("GrantError" : PySem.Str), ("NoWord" : PySem.Str), ("NoKey" : PySem.Str), ("NoJoin" : PySem.Str), ("NoPart" : PySem.Str), ("NoDay" : PySem.Str), ("NoPrice" : PySem.Str), ("NoSteps" : PySem.Str), ("NoChoice" : PySem.Str), ("NoLine" : PySem.Str), ("BadTerms" : PySem.Str), ("BadAsks" : PySem.Str), ("BadOffers" : PySem.Str), ("BadBeneath" : PySem.Str), ("Doubled" : PySem.Str), ("Stopped" : PySem.Str), ("TooMany" : PySem.Str), ("TooDeep" : PySem.Str), ("BadText" : PySem.Str)] : List PySem.Str)
theorem runs (w : World) : HandSHeadRun.RunEq R (PySem.W.view R.prog [28]) hk ob 20000 loose w := by
  intro os
  kernel_rfl
theorem ok : rowsOk rows nsT tsT cl fl ms sm xl xa = true := by kernel_rfl
theorem pg : prog2 (pr rows) nsT tsT cl (xcT xl) xa = Hk04.P := rfl
theorem pure (zs : List Int) (hz : zs.length ≤ 63) : VS.run (prog2 (pr rows) nsT tsT cl (xcT xl) xa) 30 false "law" [.node false .slst (zs.map D.int)] [] = .ok (.bl true) [] := by
  rw [pg]
  exact Hk04.pure zs hz
end Ek04
open PySem PySem.W PySem.Calls PyProof.Rows
theorem PySem.Challenge.cw_grantweave_k04_refusals_apart_holds : PySem.Challenge.rw_grantweave_k04_refusals_apart.Holds := by
  w_on; o_law
  refine HandSHeadRun.head_any (r := OpenLaw.row PySem.Challenge.rw_grantweave_k04_refusals_apart) (q := view (OpenLaw.row PySem.Challenge.rw_grantweave_k04_refusals_apart).prog [28]) (H := Ek04.hk) (ob := Ek04.ob) (M := 20000) (loose := Ek04.loose) (d := HandSHeadRun.topDef (OpenLaw.row PySem.Challenge.rw_grantweave_k04_refusals_apart).prog 28) (kwd := []) Ek04.ob_eq
    (by kernel_rfl) (fun s => by kernel_rfl) Ek04.runs (by kernel_rfl) (by kernel_rfl) (by kernel_rfl) (by rfl) (by first | assumption | decide +kernel) (by decide +kernel) ⟨rfl, rfl, rfl, rfl, rfl, by decide +kernel⟩ ?hw ?hc
  case hw => w_witness2
  case hc =>
    refine VS.walk_ofG (l := PySem.Challenge.rw_grantweave_k04_refusals_apart) (n := 63) (k := 90) (x := "_law_script") (CX := C8.CX0) rfl (by decide) (by kernel_rfl) ⟨rfl, by decide, by decide⟩ ?F (fun _ _ _ _ z => z)
    intro w mg fa h Y G hmg0
    obtain ⟨K, KX, c⟩ := Y
    have hmg : mg (VS.sn "law") = some (.ref fa) := by
      have e : (HandSHeadRun.topDef (OpenLaw.row PySem.Challenge.rw_grantweave_k04_refusals_apart).prog 28).name = VS.sn "law" := by kernel_rfl
      rw [e] at hmg0
      exact hmg0
    obtain ⟨nl, fd, sp, h1, h2, h3⟩ := VS.top_snd (P := (PySem.Challenge.rw_grantweave_k04_refusals_apart).prog) (w := w) (k := 30) (law := Ek04.rows.getLast (by simp [Ek04.rows])) (x := "_law_script") Ek04.ok (List.getLast_mem _) rfl rfl rfl (by decide +kernel) KX G c.1 c.2 hmg Ek04.pure
    exact ⟨K, fd, sp, KX, nl, h1, h2, h3⟩
