import PyProof.Rows.All
import Wide.All
import OpenK.AllK
import Wide.FinOn
import HandS.ForMost
import HandS.ForExc
import HandS.Wide
import HandS.IsInst
import HandS.Flow
import HandS.Defaults
import HandS.RaiseMore
import HandS.StrMore
import HandS.TupAny
import HandS.TupMul
import HandS.TupLe
import HandS.Codes
import HandS.HeadHook2
import HandS.MakeKw
import HandS.Property
import HandS.OwnEq
import HandS.ExcField
import HandS.ExcIs
import HandS.TryMany
import HandS.Style
import HandS.FStr
import HandS.SortInts
import HandS.TupSets
import HandS.Deep
import KE.KExcSuper
import KE.KExcIs
import HandS.Conv
import HandS.Lambda
import KE.KStateDown
import HandS.Ends
import HandS.EndBits
import HandS.HeadEnd
import HandS.HeadHook1
import HandS.Head0
import HandS.Head1
import HandS.Head2
import HandS.Words
import HandS.WordsExc
import PySem.Challenge.RW_oddfigures_k02_rows_as_text
set_option Elab.async false
set_option linter.all false
set_option maxRecDepth 100000
set_option maxHeartbeats 0
/-! Mp: a small Python over plain data. D: data; Ex, Sm: its syntax; wE, wS: what must hold ahead so that something holds behind. -/
namespace Mp
open PySem PySem.Spec PyProof.Rows L2

/-- data; a list is a frozen one, cell l: the mutable object number l, scr: the script -/
inductive D where
  | non | bl (b : Bool) | int (i : Int) | str (x : Str)
  | tup (ds : List D) | lst (ds : List D) | dic (ks vs : List D)
  | obj (c : Nat) (ds : List D) | exc (c : Nat) (ds : List D) | cell (l : Nat)
  | scr (ds : List D)
  deriving Inhabited

/-- a mutable object -/
inductive CO where
  | dead | lst (ds : List D) | dic (ks vs : List D) | obj (c : Nat) (ds : List D)
  deriving Inhabited

/-- a slot: unset, a value that may be shared, a container that this slot alone holds, a caught exception -/
inductive Sl where
  | un | shr (d : D) | own (d : D) | exc (c : Nat) (ds : List D)
  deriving Inhabited

structure Stt where
  e : List Sl
  h : List CO

/-- classes that isinstance is asked for -/
inductive Ty where
  | int | bool | str | list | tuple | dict | own (c : Nat)
  deriving DecidableEq

inductive Op where
  | add | sub | mul | fdiv | mod | pow | neg
  | eq | ne | eqL | neL | lt | le | gt | ge | isN | isNotN | in_ | notIn
  | len | abs | max2 | min2 | toInt | toStr | repr | toList | toTuple | item
  | isi (ts : List Ty) (tupled : Bool)
  | sl (lo hi : Bool) | rev | join | split | rmpre | starts | index | find | fld (x : Str)
  | all | any | sum | maxL | minL | sorted | diff | rng1 | rng2 | fstr | isT | isF | isNT | isNF
  deriving DecidableEq

/-- how a method is called: o.m(..), o.p, len(o), x in o, x not in o, -o, o == x, o != x, str(o) -/
inductive MK where
  | dot | prop | len | in_ | notIn | neg | eq | ne | str
  deriving DecidableEq

inductive ItK where
  | seq | range1 | range2
  deriving DecidableEq

inductive Tg where
  | nm (i : Nat) | tp (ts : List Tg)

inductive Ex where
  | con (d : D)
  | var (i : Nat) | brw (i : Nat) | mov (i : Nat)
  | op (o : Op) (es : List Ex)
  | tup (es : List Ex) | lst (es : List Ex) | dct (ks vs : List Ex)
  | andV (a b : Ex) | orV (a b : Ex) | notV (a : Ex)
  | tAnd (a b : Ex) | tOr (a b : Ex) | tNot (a : Ex) | tru (a : Ex) | tb (a : Ex)
  | ite (t a b : Ex)
  | chn (p q : Op) (a b c : Ex)
  | call (f : Nat) (es : List Ex) (ar : List (Sum Nat D))
  | cel (a : Ex)
  | pop (i : Nat) (a : Ex)
  | lc (k : ItK) (src : List Ex) (tg : Tg) (ifs : List Ex) (elt : Ex) (own : List Nat)
  | make (c : Nat) (fz : Bool) (f : Nat) (es : List Ex) (ar : List (Sum Nat D))
  | meth (k : MK) (c f : Nat) (es : List Ex) (ar : List (Sum Nat D))
  | xfl (i : Nat) (x : Str) | xis (i c : Nat)

inductive Sm where
  | pass
  | ret (a : Ex)
  | asg (tg : Tg) (a : Ex)
  | asgO (i : Nat) (a : Ex)
  | setI (i : Nat) (k a : Ex)
  | app (i : Nat) (a : Ex)
  | exp (a : Ex)
  | ite (t : Ex) (a b : List Sm)
  | for_ (k : ItK) (src : List Ex) (tg : Tg) (body : List Sm)
  | whl (t : Ex) (body : List Sm)
  | brk | cnt
  | rais (c : Nat) (es : List Ex)
  | tryA (body : List Sm) (cs : List (Nat × Nat)) (suites : List (List Sm))
  | par (is : List Nat) (es : List Ex)
  | setF (i : Nat) (x : Str) (a : Ex)

abbrev PD := D → Stt → Prop
abbrev PX := Nat → List D → Stt → Prop
/-- what calls do -/
abbrev Calls := Nat → List D → List CO → (D → List CO → Prop) → (Nat → List D → List CO → Prop) → Prop

def view (h : List CO) : D → D
  | .cell l => match h[l]? with
    | some (.lst ds) => .lst ds
    | some (.dic ks vs) => .dic ks vs
    | some (.obj c ds) => .obj c ds
    | _ => .cell l
  | d => d
/-- what a slot holds -/
def rdS (e : List Sl) (i : Nat) : Option D := match e[i]? with
  | some (.shr d) => some d
  | some (.own d) => some d
  | _ => none

/-! ### the classes of the package: names, fields in the order in which __init__ sets them; errors from 100 on -/
def clsTab : List (Str × List Str) := [("Scheme", ["own_base", "own_digits", "own_bars", "own_parts"]), ("Form", ["own_terms", "own_target", "found", "opened"]), ("Search", ["scheme", "came", "parts", "best"]),
  ("Costs", ["prices", "ways", "before", "costs", "best", "nexts"]), ("Points", ["scheme", "bottom", "first", "most", "ways"])]
def excTab : List (Str × List Str) := [("FigureError", []), ("InvalidBase", ["value"]), ("InvalidDigits", ["value"]), ("InvalidBars", ["value"]), ("InvalidRow", ["row"]), ("InvalidText", ["text"]), ("InvalidNumber", ["number"]), ("InvalidLength", ["length"]),
  ("InvalidTerms", ["value"]), ("InvalidTerm", ["term"]), ("InvalidRows", ["rows"]), ("InvalidState", ["state"]), ("InvalidReading", ["reading"]), ("InvalidPrices", ["prices"]), ("InvalidLag", ["value"]), ("InvalidTable", ["value"]), ("InvalidRatio", ["top", "bottom"]),
  ("InvalidWord", ["word"]), ("InvalidName", ["name"]), ("InvalidLine", ["line"]), ("UnknownDigit", ["digit"]), ("UnknownName", ["name"]), ("UnlikeBases", ["value"]), ("UnlikeForms", ["one", "other"]), ("NameTaken", ["name"]), ("NotWritten", ["number"]), ("InUse", ["name"]),
  ("NotScheme", ["value"]), ("NotForm", ["value"]), ("NotMachine", ["value"]), ("TooMany", ["most"]), ("NothingToUndo", [])]
def clsE (c : Nat) : Str × List Str := if c < 100 then clsTab.getD c (("" : Str), []) else excTab.getD (c - 100) (("" : Str), [])
def clsN (c : Nat) : Str := (clsE c).1
def fldsOf (c : Nat) : List Str := (clsE c).2
/-- the place of a field -/
def fldIx (c : Nat) (x : Str) : Option Nat := (fldsOf c).idxOf? x
/-- an error of the class c is one of the class k -/
def excSub (c k : Nat) : Bool := c == k || k == 100
/-- xs[lo:hi] -/
def cutL {α : Type} (xs : List α) (lo hi : Option Int) : List α := (xs.drop (HT.sIx xs.length 0 lo)).take (HT.sIx xs.length xs.length hi - HT.sIx xs.length 0 lo)
mutual
/-- every cell that is named has a number below n -/
def cellsLt (n : Nat) : D → Bool
  | .cell l => decide (l < n)
  | .tup ds => cellsLts n ds
  | .lst ds => cellsLts n ds
  | .dic ks vs => cellsLts n ks && cellsLts n vs
  | .obj _ ds => cellsLts n ds
  | .exc _ ds => cellsLts n ds
  | .scr ds => cellsLts n ds
  | .non => true
  | .bl _ => true
  | .int _ => true
  | .str _ => true
def cellsLts (n : Nat) : List D → Bool
  | [] => true
  | d :: ds => cellsLt n d && cellsLts n ds
end
/-! ### operations on values -/
def truD : D → Option Bool
  | .non => some false
  | .bl b => some b
  | .int i => some (i != 0)
  | .lst ds => some (!ds.isEmpty)
  | .tup ds => some (!ds.isEmpty)
  | _ => none
def tyD : D → Ty → Bool
  | .bl _, .bool => true
  | .bl _, .int => true
  | .int _, .int => true
  | .str _, .str => true
  | .lst _, .list => true
  | .tup _, .tuple => true
  | .dic _ _, .dict => true
  | .obj c _, .own k => c == k
  | _, _ => false
/-- has a type that isinstance can be asked of -/
def tyOk : D → Bool
  | .cell _ => false
  | .exc _ _ => false
  | .scr _ => false
  | _ => true
def scalD : D → Bool
  | .non | .bl _ | .int _ | .str _ => true
  | _ => false
/-- equal data, as Python compares: True is 1 -/
def b2iD (b : Bool) : Int := if b then 1 else 0
mutual
def eqD : D → D → Bool
  | .non, .non => true
  | .bl a, .bl b => a == b
  | .bl a, .int b => b2iD a == b
  | .int a, .bl b => a == b2iD b
  | .int a, .int b => a == b
  | .str a, .str b => decide (a = b)
  | .tup a, .tup b => eqDs a b
  | .lst a, .lst b => eqDs a b
  | _, _ => false
def eqDs : List D → List D → Bool
  | [], [] => true
  | a :: as, b :: bs => eqD a b && eqDs as bs
  | _, _ => false
end
mutual
/-- data that == is told of: no dicts, objects, cells; not too deep -/
def flatD : Nat → D → Bool
  | _, .non => true
  | _, .bl _ => true
  | _, .int _ => true
  | _, .str x => PyData.strOk x
  | k, .tup ds => match k with
    | 0 => false
    | k + 1 => flatDs k ds
  | k, .lst ds => match k with
    | 0 => false
    | k + 1 => flatDs k ds
  | _, .dic _ _ => false
  | _, .obj _ _ => false
  | _, .exc _ _ => false
  | _, .cell _ => false
  | _, .scr _ => false
def flatDs : Nat → List D → Bool
  | _, [] => true
  | n, d :: ds => flatD n d && flatDs n ds
end
/-- == can be told of -/
def eqOk (a b : D) : Bool := (scalD a && scalD b) || (flatD 50 a && flatD 50 b)
/-- == of two items: of one and the same object, or of plain data -/
def itEq (a b : D) : Option Bool := match a, b with
  | .cell l, .cell m => if l = m then some true else none
  | a, b => if (flatD 50 a && flatD 50 b) = true then some (eqD a b) else none
def itEqs : List D → List D → Option Bool
  | [], [] => some true
  | a :: as, b :: bs => (match itEq a b, itEqs as bs with
    | some x, some y => some (x && y)
    | _, _ => none)
  | _, _ => some false
def eqLW (neg : Bool) (ds : List D) (Q : D → Prop) : Prop := match ds with
  | [.lst as, .lst bs] => ∃ k, itEqs as bs = some k ∧ Q (.bl (if neg = true then !k else k))
  | _ => False
def reprD : D → Option Str
  | .bl b => some (if b then "True" else "False")
  | .non => some "None"
  | _ => none
def int1 (ds : List D) (k : Int → Prop) : Prop := match ds with
  | [.int i] => k i
  | _ => False
def int2 (ds : List D) (k : Int → Int → Prop) : Prop := match ds with
  | [.int i, .int j] => k i j
  | _ => False
def any1 (ds : List D) (k : D → Prop) : Prop := match ds with
  | [a] => k a
  | _ => False
def any2 (ds : List D) (k : D → D → Prop) : Prop := match ds with
  | [a, b] => k a b
  | _ => False
/-- the items of a list or a tuple -/
def seqD : D → Option (List D)
  | .lst ds => some ds
  | .tup ds => some ds
  | .scr ds => some ds
  | _ => none
/-- an int or a text -/
def keyD : D → Bool
  | .int _ => true
  | .str _ => true
  | _ => false
def isNonD : D → Bool
  | .non => true
  | _ => false
def mulW (ds : List D) (Q : D → Prop) : Prop := match ds with
  | [.int i, .int j] => CMul i j ∧ Q (.int (i * j))
  | [.lst ds, .int k] => (0 ≤ k ∧ k ≤ 1000 ∧ ds.length ≤ 1000) ∧ Q (.lst (List.replicate k.toNat ds).flatten)
  | [.str x, .int k] => (0 ≤ k ∧ k ≤ 1000 ∧ x.length ≤ 1000) ∧ Q (.str (Txt.mul x k))
  | _ => False
def addW (ds : List D) (Q : D → Prop) : Prop := match ds with
  | [.int i, .int j] => Q (.int (i + j))
  | [.str x, .str y] => x.length + y.length ≤ sizeLine ∧ Q (.str (x ++ y))
  | [.lst a, .lst b] => a.length + b.length ≤ sizeLine ∧ Q (.lst (a ++ b))
  | [.tup a, .tup b] => a.length + b.length ≤ sizeLine ∧ Q (.tup (a ++ b))
  | _ => False
def cutW (a : D) (lo hi : Option Int) (Q : D → Prop) : Prop := match a with
  | .lst es => Q (.lst (cutL es lo hi))
  | .tup es => Q (.tup (cutL es lo hi))
  | .str z => z.length ≤ sizeLine ∧ Q (.str (cutS z lo hi))
  | _ => False
def slW (lo hi : Bool) (ds : List D) (Q : D → Prop) : Prop := match lo, hi, ds with
  | false, false, [a] => cutW a none none Q
  | true, false, [a, .int i] => cutW a (some i) none Q
  | false, true, [a, .int j] => cutW a none (some j) Q
  | true, true, [a, .int i, .int j] => cutW a (some i) (some j) Q
  | _, _, _ => False
def revW (a : D) (Q : D → Prop) : Prop := match a with
  | .lst es => Q (.lst es.reverse)
  | _ => False
/-- the texts of a list -/
def strsD : List D → Option (List Str)
  | [] => some []
  | .str x :: ds => (strsD ds).map (x :: ·)
  | _ :: _ => none
def intsD : List D → Option (List Int)
  | [] => some []
  | .int i :: ds => (intsD ds).map (i :: ·)
  | _ :: _ => none
def blsD : List D → Option (List Bool)
  | [] => some []
  | .bl i :: ds => (blsD ds).map (i :: ·)
  | _ :: _ => none
def joinW (ds : List D) (Q : D → Prop) : Prop := match ds with
  | [.str a, b] => ∃ es ys, seqD b = some es ∧ strsD es = some ys ∧ (ys.map (·.length)).sum + ys.length * a.length ≤ 16777216 ∧ Q (.str (Txt.join a ys))
  | _ => False
def str2 (ds : List D) (k : Str → Str → Prop) : Prop := match ds with
  | [.str a, .str b] => k a b
  | _ => False
def fldW (x : Str) (d : D) (Q : D → Prop) : Prop := match d with
  | .obj c ds => ∃ k v, fldIx c x = some k ∧ ds[k]? = some v ∧ Q v
  | _ => False
def allW (a : D) (Q : D → Prop) : Prop := ∃ es bs, a = .lst es ∧ blsD es = some bs ∧ Q (.bl (bs.all id))
def sumW (a : D) (Q : D → Prop) : Prop := ∃ es ns, a = .lst es ∧ intsD es = some ns ∧ Q (.int ns.sum)
def maxL : List Int → Int
  | [] => 0
  | [a] => a
  | a :: l => if maxL l > a then maxL l else a
def minL : List Int → Int
  | [] => 0
  | [a] => a
  | a :: l => if minL l < a then minL l else a
def maxW (a : D) (Q : D → Prop) : Prop := ∃ es ns, a = .lst es ∧ intsD es = some ns ∧ ns ≠ [] ∧ Q (.int (maxL ns))
def minW (a : D) (Q : D → Prop) : Prop := ∃ es ns, a = .lst es ∧ intsD es = some ns ∧ ns ≠ [] ∧ Q (.int (minL ns))
def anyW (a : D) (Q : D → Prop) : Prop := ∃ es bs, a = .lst es ∧ blsD es = some bs ∧ Q (.bl (bs.any id))
/-- is True, is False -/
def isBW (b neg : Bool) (d : D) (Q : D → Prop) : Prop := match d with
  | .bl c => Q (.bl (if neg then !decide (c = b) else decide (c = b)))
  | _ => False
def toListW (d : D) (Q : D → Prop) : Prop := match d with
  | .str z => z.length ≤ sizeLine ∧ Q (.lst (z.cps.toList.map fun c => D.str ⟨#[c]⟩))
  | a => ∃ es, seqD a = some es ∧ Q (.lst es)
def rngL (a b : Int) : List D := (List.range (b - a).toNat).map fun (k : Nat) => D.int (a + k)
def lenW (d : D) (Q : D → Prop) : Prop := match d with
  | .lst ds => Q (.int ds.length)
  | .scr ds => Q (.int ds.length)
  | .tup ds => Q (.int ds.length)
  | .str x => x.length ≤ sizeLine ∧ Q (.int x.length)
  | _ => False
def toIntW (d : D) (Q : D → Prop) : Prop := match d with
  | .int i => Q (.int i)
  | .bl b => Q (.int (if b then 1 else 0))
  | _ => False
def inW (neg : Bool) (ds : List D) (Q : D → Prop) : Prop := match ds with
  | [a, .lst es] => (flatD 50 a = true ∧ flatDs 50 es = true) ∧ Q (.bl (if neg then !(es.any fun z => eqD z a) else es.any fun z => eqD z a))
  | [a, .tup es] => (flatD 50 a = true ∧ flatDs 50 es = true) ∧ Q (.bl (if neg then !(es.any fun z => eqD z a) else es.any fun z => eqD z a))
  | [.str x, .str y] => Q (.bl (if neg then !(!(Builtin.Str.occurrences y x 0 y.length 1).isEmpty) else !(Builtin.Str.occurrences y x 0 y.length 1).isEmpty))
  | _ => False
def itemW (ds : List D) (Q : D → Prop) : Prop := match ds with
  | [.str z, .int i] => ∃ c, z.length ≤ sizeLine ∧ atI z.cps.toList i = some c ∧ Q (.str ⟨#[c]⟩)
  | [a, .int i] => ∃ es d, seqD a = some es ∧ atI es i = some d ∧ Q d
  | _ => False
def opW : Op → List D → (D → Prop) → Prop
  | .add, ds, Q => addW ds Q
  | .sub, ds, Q => int2 ds fun i j => Q (.int (i - j))
  | .mul, ds, Q => mulW ds Q
  | .fdiv, ds, Q => int2 ds fun i j => (0 < j ∧ j.natAbs.log2 < 9000) ∧ Q (.int (i / j))
  | .mod, ds, Q => int2 ds fun i j => 0 < j ∧ Q (.int (i % j))
  | .pow, ds, Q => int2 ds fun i j => (0 ≤ j ∧ j ≤ 1000000 ∧ i.natAbs < 2 ^ 64) ∧ Q (.int (i ^ j.toNat))
  | .neg, ds, Q => int1 ds fun i => Q (.int (-i))
  | .eq, ds, Q => any2 ds fun a b => eqOk a b = true ∧ Q (.bl (eqD a b))
  | .ne, ds, Q => any2 ds fun a b => eqOk a b = true ∧ Q (.bl (!eqD a b))
  | .eqL, ds, Q => eqLW false ds Q
  | .neL, ds, Q => eqLW true ds Q
  | .lt, ds, Q => int2 ds fun i j => Q (.bl (decide (i < j)))
  | .le, ds, Q => int2 ds fun i j => Q (.bl (decide (i ≤ j)))
  | .gt, ds, Q => int2 ds fun i j => Q (.bl (decide (j < i)))
  | .ge, ds, Q => int2 ds fun i j => Q (.bl (decide (j ≤ i)))
  | .isN, ds, Q => any1 ds fun a => Q (.bl (isNonD a))
  | .isNotN, ds, Q => any1 ds fun a => Q (.bl (!isNonD a))
  | .in_, ds, Q => inW false ds Q
  | .notIn, ds, Q => inW true ds Q
  | .len, ds, Q => any1 ds fun a => lenW a Q
  | .abs, ds, Q => int1 ds fun i => Q (.int (if i < 0 then -i else i))
  | .max2, ds, Q => int2 ds fun i j => Q (.int (if j > i then j else i))
  | .min2, ds, Q => int2 ds fun i j => Q (.int (if j < i then j else i))
  | .toInt, ds, Q => any1 ds fun a => toIntW a Q
  | .toStr, ds, Q => int1 ds fun i => i.natAbs.log2 < 1920 ∧ Q (.str (toString i))
  | .repr, ds, Q => any1 ds fun a => ∃ x, reprD a = some x ∧ Q (.str x)
  | .toList, ds, Q => any1 ds fun a => toListW a Q
  | .toTuple, ds, Q => any1 ds fun a => ∃ es, seqD a = some es ∧ Q (.tup es)
  | .item, ds, Q => itemW ds Q
  | .isi ts _, ds, Q => any1 ds fun a => tyOk a = true ∧ Q (.bl (ts.any (tyD a)))
  | .sl lo hi, ds, Q => slW lo hi ds Q
  | .rev, ds, Q => any1 ds fun a => revW a Q
  | .join, ds, Q => joinW ds Q
  | .split, ds, Q => str2 ds fun a b => ((b.length == 0) = false ∧ a.length + 2 ≤ sizeLine) ∧ Q (.lst ((Txt.split a b).map D.str))
  | .rmpre, ds, Q => str2 ds fun a b => a.length ≤ sizeLine ∧ Q (.str (Txt.removeprefix a b))
  | .starts, ds, Q => str2 ds fun a b => Q (.bl (Txt.startswith a b))
  | .index, ds, Q => str2 ds fun a b => ∃ k, Txt.index0 a b = some k ∧ Q (.int (k : Nat))
  | .find, ds, Q => str2 ds fun a b => Q (.int (Txt.find a b))
  | .fld x, ds, Q => any1 ds fun a => fldW x a Q
  | .all, ds, Q => any1 ds fun a => allW a Q
  | .any, ds, Q => any1 ds fun a => anyW a Q
  | .sum, ds, Q => any1 ds fun a => sumW a Q
  | .maxL, ds, Q => any1 ds fun a => maxW a Q
  | .minL, ds, Q => any1 ds fun a => minW a Q
  | .isT, ds, Q => any1 ds fun a => isBW true false a Q
  | .isF, ds, Q => any1 ds fun a => isBW false false a Q
  | .isNT, ds, Q => any1 ds fun a => isBW true true a Q
  | .isNF, ds, Q => any1 ds fun a => isBW false true a Q
  | .rng1, ds, Q => int1 ds fun n => (-(2 ^ 22) < n ∧ n < 2 ^ 22) ∧ Q (.lst (rngL 0 n))
  | .rng2, ds, Q => int2 ds fun a b => (-(2 ^ 22) < a ∧ a < 2 ^ 22 ∧ -(2 ^ 22) < b ∧ b < 2 ^ 22) ∧ Q (.lst (rngL a b))
  | _, _, _ => False

/-- what is walked -/
def itD : ItK → List D → Option (List D)
  | .seq, [.lst ds] => some ds
  | .seq, [.tup ds] => some ds
  | .seq, [.scr ds] => some ds
  | .range1, [.int n] => if -(2 ^ 24) < n ∧ n < 2 ^ 24 then some ((List.range n.toNat).map fun (k : Nat) => D.int k) else none
  | .range2, [.int a, .int b] => if -(2 ^ 24) < a ∧ a < 2 ^ 24 ∧ -(2 ^ 24) < b ∧ b < 2 ^ 24 then some ((List.range (b - a).toNat).map fun (k : Nat) => D.int (a + k)) else none
  | _, _ => none

mutual
/-- a target takes a value -/
def tgS : Tg → D → List Sl → Option (List Sl)
  | .nm i, d, e => some (e.set i (.shr d))
  | .tp ts, .tup ds, e => tgSs ts ds e
  | _, _, _ => none
def tgSs : List Tg → List D → List Sl → Option (List Sl)
  | [], [], e => some e
  | t :: ts, d :: ds, e => match tgS t d e with
    | some e1 => tgSs ts ds e1
    | none => none
  | _, _, _ => none
end
mutual
def tgI : Tg → List Nat
  | .nm i => [i]
  | .tp ts => tgIs ts
def tgIs : List Tg → List Nat
  | [] => []
  | t :: ts => tgI t ++ tgIs ts
end

/-- the slots that a comprehension's own names hide -/
def hide (e : List Sl) : List Nat → List Sl
  | [] => e
  | i :: r => (hide e r).set i .un
/-- .. and behind it -/
def unhide (e0 : List Sl) (e : List Sl) : List Nat → List Sl
  | [] => e
  | i :: r => (unhide e0 e r).set i (match e0[i]? with | some (.shr d) => .shr d | _ => .un)

/-- the turns of a comprehension: each turn gives no item or one -/
def lcLoop (turn : D → Stt → (List D → Stt → Prop) → Prop) : List D → List D → Stt → (List D → Stt → Prop) → Prop
  | [], acc, st, Q => Q acc st
  | x :: xs, acc, st, Q => turn x st fun r st1 => lcLoop turn xs (acc ++ r) st1 Q

/-- the arguments in the parameters' order: the i-th one written, or a default -/
def arr (ar : List (Sum Nat D)) (ds : List D) : List D := ar.map fun a => match a with
  | .inl i => ds.getD i .non
  | .inr d => d
def popAt (ds : List D) (i : Int) : Option (D × List D) := (ixN ds.length i).bind fun j => (ds[j]?).map fun d => (d, ds.eraseIdx j)

def isObj (c : Nat) : D → Bool
  | .obj k _ => k == c
  | _ => false
/-- is the object the second one? -/
def isIn : MK → Bool
  | .in_ => true
  | .notIn => true
  | _ => false
/-- what is made of the method's answer -/
def methQ : MK → D → (D → Prop) → Prop
  | .dot, d, Q => Q d
  | .prop, d, Q => Q d
  | .len, d, Q => ∃ n, d = .int n ∧ (0 ≤ n ∧ n < 2 ^ 62) ∧ Q d
  | .in_, d, Q => ∃ b, d = .bl b ∧ Q (.bl b)
  | .notIn, d, Q => ∃ b, d = .bl b ∧ Q (.bl (!b))
  | .neg, d, Q => Q d
  | .eq, d, Q => ∃ b, d = .bl b ∧ Q (.bl b)
  | .ne, d, Q => ∃ b, d = .bl b ∧ Q (.bl (!b))
  | .str, d, Q => ∃ x, d = .str x ∧ Q d
mutual
def wE (C : Calls) : Ex → Stt → PD → PX → Prop
  | .con d, st, Q, _ => Q d st
  | .var i, st, Q, _ => match st.e[i]? with
    | some (.shr d) => Q d st
    | some (.own d) => Q d ⟨st.e.set i (.shr d), st.h⟩
    | _ => False
  | .mov i, st, Q, _ => match st.e[i]? with
    | some (.own d) => Q d ⟨st.e.set i .un, st.h⟩
    | some (.shr d) => scalD d = true ∧ Q d st
    | _ => False
  | .op o es, st, Q, X => wA C es st (fun ds st1 => opW o (ds.map (view st1.h)) fun d => Q d st1) X
  | .tup es, st, Q, X => wL C es st (fun ds st1 => ds.length ≤ 1000 ∧ Q (.tup ds) st1) X
  | .lst es, st, Q, X => wL C es st (fun ds st1 => ds.length ≤ 1000 ∧ Q (.lst ds) st1) X
  | .andV a b, st, Q, X => wE C a st (fun d st1 => ∃ k, truD (view st1.h d) = some k ∧ if k = true then wE C b st1 Q X else Q d st1) X
  | .orV a b, st, Q, X => wE C a st (fun d st1 => ∃ k, truD (view st1.h d) = some k ∧ if k = true then Q d st1 else wE C b st1 Q X) X
  | .notV a, st, Q, X => wE C a st (fun d st1 => ∃ k, truD (view st1.h d) = some k ∧ Q (.bl (!k)) st1) X
  | .ite t a b, st, Q, X => wT C t st (fun k st1 => if k = true then wE C a st1 Q X else wE C b st1 Q X) X
  | .chn p q a b c, st, Q, X => wE C a st (fun x st1 => wE C b st1 (fun y st2 => opW p [view st2.h x, view st2.h y] fun r => ∃ k, r = .bl k ∧
      if k = true then wE C c st2 (fun z st3 => opW q [view st3.h y, view st3.h z] fun r => Q r st3) X else Q (.bl false) st2) X) X
  | .call f es ar, st, Q, X => wL C es st (fun ds st1 => C f (arr ar ds) st1.h (fun d h => Q d ⟨st1.e, h⟩) (fun c fs h => X c fs ⟨st1.e, h⟩)) X
  | .dct [] [], st, Q, _ => Q (.dic [] []) st
  | .dct [k] [v], st, Q, X => wE C k st (fun a st1 => wE C v st1 (fun b st2 => keyD a = true ∧ Q (.dic [a] [b]) st2) X) X
  | .cel a, st, Q, X => wE C a st (fun d st1 => match d with
    | .lst ds => Q (.cell st1.h.length) ⟨st1.e, st1.h ++ [.lst ds]⟩
    | .dic ks vs => Q (.cell st1.h.length) ⟨st1.e, st1.h ++ [.dic ks vs]⟩
    | d => scalD d = true ∧ Q d st1) X
  | .make c fz f es ar, st, Q, X => wL C es st (fun ds st1 => C f (.cell st1.h.length :: arr ar ds) (st1.h ++ [.obj c []])
      (fun d h => d = .non ∧ if fz = true then ∃ fs, h = st1.h ++ [.obj c fs] ∧ cellsLts st1.h.length fs = true ∧ Q (.obj c fs) st1 else Q (.cell st1.h.length) ⟨st1.e, h⟩)
      (fun k fs h => if fz = true then (∃ gs, h = st1.h ++ [.obj c gs]) ∧ cellsLts st1.h.length fs = true ∧ X k fs st1 else X k fs ⟨st1.e, h⟩)) X
  | .meth k c f (r :: es) ar, st, Q, X => wE C r st (fun d st1 => (isIn k = false → isObj c (view st1.h d) = true) ∧ wL C es st1 (fun ds st2 => (isIn k = true → isObj c (view st2.h (ds.getD 0 .non)) = true) ∧
      C f (arr ar (d :: ds)) st2.h (fun d h => methQ k d fun r => Q r ⟨st2.e, h⟩) (fun c fs h => X c fs ⟨st2.e, h⟩)) X) X
  | .xfl i x, st, Q, _ => match st.e[i]? with
    | some (.exc c fs) => ∃ k d, fldIx c x = some k ∧ fs[k]? = some d ∧ Q d st
    | _ => False
  | .xis i k, st, Q, _ => match st.e[i]? with
    | some (.exc c _) => Q (.bl (excSub c k)) st
    | _ => False
  | .pop i a, st, Q, X => (∃ ds, st.e[i]? = some (.own (.lst ds))) ∧ wE C a st (fun d st1 => match d, st1.e[i]? with
    | .int k, some (.own (.lst ds)) => ds.length ≤ sizeLine ∧ ∃ x r, popAt ds k = some (x, r) ∧ Q x ⟨st1.e.set i (.own (.lst r)), st1.h⟩
    | _, _ => False) X
  | .lc k src tg ifs elt own, st, Q, X => wL C src st (fun ds st1 => ∃ items, itD k ds = some items ∧ items.length ≤ sizeLine ∧
      lcLoop (fun x st2 R => ∃ e', tgS tg x st2.e = some e' ∧ wTs C ifs ⟨e', st2.h⟩ (fun b st3 => if b = true then wE C elt st3 (fun y st4 => R [y] ⟨hide st4.e own, st4.h⟩) (fun _ _ _ => False) else R [] ⟨hide st3.e own, st3.h⟩) (fun _ _ _ => False))
        items [] ⟨hide st1.e own, st1.h⟩ fun out st5 => Q (.lst out) ⟨unhide st1.e st5.e own, st5.h⟩) X
  | _, _, _, _ => False
/-- operands -/
def wA (C : Calls) : List Ex → Stt → (List D → Stt → Prop) → PX → Prop
  | [], st, Q, _ => Q [] st
  | .brw i :: es, st, Q, X => (rdS st.e i).isSome = true ∧ wA C es st (fun ds st2 => ∃ d, rdS st2.e i = some d ∧ Q (d :: ds) st2) X
  | e :: es, st, Q, X => wE C e st (fun d st1 => wA C es st1 (fun ds st2 => Q (d :: ds) st2) X) X
/-- values to be kept -/
def wL (C : Calls) : List Ex → Stt → (List D → Stt → Prop) → PX → Prop
  | [], st, Q, _ => Q [] st
  | e :: es, st, Q, X => wE C e st (fun d st1 => wL C es st1 (fun ds st2 => Q (d :: ds) st2) X) X
/-- tests -/
def wT (C : Calls) : Ex → Stt → (Bool → Stt → Prop) → PX → Prop
  | .tAnd a b, st, Q, X => wT C a st (fun k st1 => if k = true then wT C b st1 Q X else Q false st1) X
  | .tOr a b, st, Q, X => wT C a st (fun k st1 => if k = true then Q true st1 else wT C b st1 Q X) X
  | .tNot a, st, Q, X => wT C a st (fun k st1 => Q (!k) st1) X
  | .tru a, st, Q, X => wE C a st (fun d st1 => ∃ k, truD (view st1.h d) = some k ∧ Q k st1) X
  | .tb a, st, Q, X => wE C a st (fun d st1 => ∃ k, d = .bl k ∧ Q k st1) X
  | _, _, _, _ => False
def wTs (C : Calls) : List Ex → Stt → (Bool → Stt → Prop) → PX → Prop
  | [], st, Q, _ => Q true st
  | t :: ts, st, Q, X => wT C t st (fun k st1 => if k = true then wTs C ts st1 Q X else Q false st1) X
end

/-- the list that slot i leads to: its own, or a cell's -/
def lstAt (st : Stt) (i : Nat) : Option (List D) := match st.e[i]? with
  | some (.own (.lst ds)) => some ds
  | some (.shr (.cell l)) => match st.h[l]? with
    | some (.lst ds) => some ds
    | _ => none
  | _ => none
def putAt (st : Stt) (i : Nat) (ds : List D) : Stt := match st.e[i]? with
  | some (.own _) => ⟨st.e.set i (.own (.lst ds)), st.h⟩
  | some (.shr (.cell l)) => ⟨st.e, st.h.set l (.lst ds)⟩
  | _ => st
/-- what is wanted behind a statement -/
structure EndD where
  nx : Stt → Prop
  rt : D → Stt → Prop
  bk : Stt → Prop
  ct : Stt → Prop
  ex : PX

/-- a container is held alone -/
def ownS (d : D) : Sl := if scalD d = true then .shr d else .own d
/-- no slot holds a caught exception -/
def noX (e : List Sl) : Bool := e.all fun x => match x with
  | .exc _ _ => false
  | _ => true
def setSs : List Nat → List D → List Sl → Option (List Sl)
  | [], [], e => some e
  | i :: is, d :: ds, e => setSs is ds (e.set i (.shr d))
  | _, _, _ => none
/-- a field is set: anew, or the next one -/
def putFl (c : Nat) (x : Str) (d : D) (fs : List D) : Option (List D) := match fldIx c x with
  | some k => if k < fs.length then some (fs.set k d) else if k = fs.length then some (fs ++ [d]) else none
  | none => none
def objAt (st : Stt) (i : Nat) : Option (Nat × Nat × List D) := match st.e[i]? with
  | some (.shr (.cell l)) => (match st.h[l]? with
    | some (.obj c fs) => some (l, c, fs)
    | _ => none)
  | _ => none
/-- the turns of a for -/
def forLoop (turn : D → Stt → (Stt → Prop) → Prop) : List D → Stt → (Stt → Prop) → Prop
  | [], st, Q => Q st
  | x :: xs, st, Q => turn x st fun st1 => forLoop turn xs st1 Q

mutual
def wS (C : Calls) : Sm → Stt → EndD → Prop
  | .pass, st, E => E.nx st
  | .brk, st, E => E.bk st
  | .cnt, st, E => E.ct st
  | .ret a, st, E => wE C a st E.rt E.ex
  | .exp a, st, E => wE C a st (fun _ st1 => E.nx st1) E.ex
  | .asg tg a, st, E => wE C a st (fun d st1 => ∃ e', tgS tg d st1.e = some e' ∧ E.nx ⟨e', st1.h⟩) E.ex
  | .asgO i a, st, E => wE C a st (fun d st1 => E.nx ⟨st1.e.set i (ownS d), st1.h⟩) E.ex
  | .setI i k a, st, E => wE C a st (fun d st1 => (rdS st1.e i).isSome = true ∧ wE C k st1 (fun z st2 => match z with
    | .int j => ∃ ds m, lstAt st2 i = some ds ∧ ixN ds.length j = some m ∧ E.nx (putAt st2 i (ds.set m d))
    | _ => False) E.ex) E.ex
  | .app i a, st, E => (lstAt st i).isSome = true ∧ wE C a st (fun d st1 => ∃ ds, lstAt st1 i = some ds ∧ ds.length < sizeLine ∧ E.nx (putAt st1 i (ds ++ [d]))) E.ex
  | .ite t a b, st, E => wT C t st (fun k st1 => if k = true then wSs C a st1 E else wSs C b st1 E) E.ex
  | .for_ k src tg body, st, E => wL C src st (fun ds st1 => ∃ items, itD k ds = some items ∧ items.length ≤ sizeLine ∧
      forLoop (fun x st2 R => ∃ e', tgS tg x st2.e = some e' ∧ wSs C body ⟨e', st2.h⟩ { nx := R, rt := E.rt, bk := E.nx, ct := R, ex := E.ex }) items st1 E.nx) E.ex
  | .whl t body, st, E => ∃ I : Nat → Stt → Prop, (∃ m, I m st) ∧ ∀ m st, I m st → wT C t st (fun k st1 => if k = true then
      wSs C body st1 { nx := fun st2 => ∃ m', m' < m ∧ I m' st2, rt := E.rt, bk := E.nx, ct := fun st2 => ∃ m', m' < m ∧ I m' st2, ex := E.ex } else E.nx st1) E.ex
  | .rais c es, st, E => wL C es st (fun ds st1 => ds.length = (fldsOf c).length ∧ E.ex c ds st1) E.ex
  | .tryA body cs suites, st, E => wSs C body st { nx := E.nx, rt := E.rt, bk := E.bk, ct := E.ct, ex := fun c fs st1 => wHs C cs suites c fs st1 E }
  | .setF i x a, st, E => wE C a st (fun d st1 => ∃ l c fs fs', objAt st1 i = some (l, c, fs) ∧ putFl c x d fs = some fs' ∧ E.nx ⟨st1.e, st1.h.set l (.obj c fs')⟩) E.ex
  | .par is es, st, E => wL C es st (fun ds st1 => ∃ e', setSs is ds st1.e = some e' ∧ E.nx ⟨e', st1.h⟩) E.ex
/-- the handlers, one behind the other -/
def wHs (C : Calls) : List (Nat × Nat) → List (List Sm) → Nat → List D → Stt → EndD → Prop
  | (k, i) :: cs, suite :: suites, c, fs, st, E => if excSub c k = true then wSs C suite ⟨st.e.set i (.exc c fs), st.h⟩
      { nx := fun st2 => noX (st2.e.set i .un) = true ∧ E.nx ⟨st2.e.set i .un, st2.h⟩, rt := fun d st2 => noX (st2.e.set i .un) = true ∧ E.rt d ⟨st2.e.set i .un, st2.h⟩,
        bk := fun st2 => noX (st2.e.set i .un) = true ∧ E.bk ⟨st2.e.set i .un, st2.h⟩, ct := fun st2 => noX (st2.e.set i .un) = true ∧ E.ct ⟨st2.e.set i .un, st2.h⟩, ex := fun _ _ _ => False } else wHs C cs suites c fs st E
  | _, _, c, fs, st, E => E.ex c fs st
def wSs (C : Calls) : List Sm → Stt → EndD → Prop
  | [], st, E => E.nx st
  | s :: ss, st, E => wS C s st { nx := fun st1 => wSs C ss st1 E, rt := E.rt, bk := E.bk, ct := E.ct, ex := E.ex }
end

/-- a function: its parameters' number, its slots' number, its body -/
structure Fn where
  np : Nat
  ns : Nat
  body : List Sm
  fr : Bool

def startE (f : Fn) (ds : List D) : List Sl := ds.map Sl.shr ++ List.replicate (f.ns - ds.length) Sl.un
/-- the functions of a program, by at most n calls one in another -/
def CC (P : Nat → Option Fn) : Nat → Calls
  | 0, _, _, _, _, _ => False
  | n + 1, f, ds, h, Q, X => match P f with
    | some fn => ds.length = fn.np ∧ wSs (CC P n) fn.body ⟨startE fn ds, h⟩ { nx := fun st => Q .non st.h, rt := fun d st => Q d st.h, bk := fun _ => False, ct := fun _ => False, ex := fun c fs st => X c fs st.h }
    | none => False
end Mp
namespace Mp
open PySem PySem.Spec PyProof.Rows L2

/-- the written part; the caught exception, where one is handled -/
structure Kc where
  K : PySem.W.Frag
  xo : Option (Addr × Obj)
instance : CoeOut Kc PySem.W.Frag := ⟨Kc.K⟩
abbrev kz (X : Cx) : Kc := ⟨X.K, if X.calm then none else X.pn.head?⟩
theorem kz_calm {X : Cx} (h : X.calm = true) : kz X = ⟨X.K, none⟩ := by unfold kz; rw [h]; rfl
/-- the class number c -/
abbrev CL (K : Kc) (c : Nat) : Addr := He.ga K.K (clsN c)
/-- where the mutable objects stand; W: addresses that one slot or one cell alone holds; M: those of them that may change -/
structure Gh where
  io : Nat → Addr
  W : Addr → Prop
  M : Addr → Prop
def Gh.add (g : Gh) (p : Addr) : Gh := ⟨g.io, fun a => a = p ∨ g.W a, fun a => a = p ∨ g.M a⟩
def Gh.del (g : Gh) (p : Addr) : Gh := ⟨g.io, fun a => a ≠ p ∧ g.W a, fun a => a ≠ p ∧ g.M a⟩

/-- a tuple of the module's own -/
def KTs (K : Kc) (a : Addr) (xs : List V) : Prop :=
  ∃ (o : Obj) (its : Array Value) (n : Nat), K.K.lookup a = some o ∧ o.cls = .type "tuple" ∧ o.data = .seq its n ∧ its.size ≤ sizeLine ∧ Vals xs its.toList
def KLs (K : Kc) (a : Addr) (xs : List V) : Prop :=
  ∃ (o : Obj) (its : Array Value) (n : Nat), K.K.lookup a = some o ∧ o.cls = .type "list" ∧ o.dict = none ∧ o.data = .seq its n ∧ its.size ≤ sizeLine ∧ Vals xs its.toList
/-- the script -/
def ScR (K : Kc) (g : Gh) (H : Hp) (a : Addr) (xs : List V) : Prop := (Rd H a (.lst xs) ∧ ¬ g.W a) ∨ KLs K a xs
def LsR (g : Gh) (H : Hp) (a : Addr) (xs : List V) : Prop := H a = some (.lst xs) ∧ ¬ g.W a
def TpR (K : Kc) (g : Gh) (H : Hp) (a : Addr) (xs : List V) : Prop := (Rd H a (.tup xs) ∧ ¬ g.W a) ∨ KTs K a xs
def DcR (H : Hp) (a : Addr) (kk ws : List V) : Prop := ∃ kvs : List (Key × V), H a = some (.dK kvs) ∧ kk = kvs.map (fun p => kV p.1) ∧ ws = kvs.map (·.2)

/-- the module has the class c -/
def isKnown (K : PySem.W.Frag) (c : Nat) : Bool := decide (c < clsTab.length) && He.eqO (PySem.W.nsIn K mainGlobals (clsN c)) (some (some (.ref (He.ga K (clsN c)))))
/-- the module has the error class c -/
def isKnownX (K : PySem.W.Frag) (c : Nat) : Bool := decide (100 ≤ c) && decide (c < 100 + excTab.length) && He.eqO (PySem.W.nsIn K mainGlobals (clsN c)) (some (some (.ref (He.ga K (clsN c)))))
/-- an instance of the class c with the fields vs -/
def ObR (K : Kc) (H : Hp) (a : Addr) (c : Nat) (vs : List V) : Prop := isKnown K.K c = true ∧ vs.length ≤ (fldsOf c).length ∧ ∃ dx, H a = some (.ins (CL K c) dx ((fldsOf c).zip vs))
mutual
/-- v, over H, is the data d -/
def Rep (K : Kc) (g : Gh) (n : Nat) (H : Hp) : D → V → Prop
  | .non, v => v = .non
  | .bl b, v => v = .bl b
  | .int i, v => v = .int i
  | .str x, v => v = .str x
  | .tup ds, v => ∃ a vs, v = .ref a ∧ TpR K g H a vs ∧ Reps K g n H ds vs
  | .lst ds, v => ∃ a vs, v = .ref a ∧ LsR g H a vs ∧ Reps K g n H ds vs
  | .dic ks es, v => ∃ a kk ws, v = .ref a ∧ (DcR H a kk ws ∧ ¬ g.W a) ∧ Reps K g n H ks kk ∧ Reps K g n H es ws
  | .obj c ds, v => ∃ a vs, v = .ref a ∧ (ObR K H a c vs ∧ ¬ g.W a) ∧ Reps K g n H ds vs
  | .exc _ _, _ => False
  | .cell l, v => l < n ∧ v = .ref (g.io l)
  | .scr ds, v => ∃ a vs, v = .ref a ∧ ScR K g H a vs ∧ Reps K g n H ds vs
def Reps (K : Kc) (g : Gh) (n : Nat) (H : Hp) : List D → List V → Prop
  | [], vs => vs = []
  | d :: ds, vs => ∃ v r, vs = v :: r ∧ Rep K g n H d v ∧ Reps K g n H ds r
end

/-- the step from one state to a later one: what may not change has not -/
structure Ext (g : Gh) (n : Nat) (H : Hp) (g' : Gh) (n' : Nat) (H' : Hp) : Prop where
  keep : ∀ a o, H a = some o → ¬ g.M a → H' a = some o
  stay : ∀ a o, H a = some o → ¬ g.M a → (g'.W a ↔ g.W a)
  stayM : ∀ a o, H a = some o → ¬ g.M a → ¬ g'.M a
  io : ∀ l, l < n → g'.io l = g.io l
  le : n ≤ n'
theorem Ext.refl (g : Gh) (n : Nat) (H : Hp) : Ext g n H g n H := ⟨fun _ _ h _ => h, fun _ _ _ _ => Iff.rfl, fun _ _ _ h => h, fun _ _ => rfl, Nat.le_refl _⟩
theorem Ext.trans {g g1 g2 : Gh} {n n1 n2 : Nat} {H H1 H2 : Hp} (a : Ext g n H g1 n1 H1) (b : Ext g1 n1 H1 g2 n2 H2) : Ext g n H g2 n2 H2 where
  keep := fun c o h m => b.keep c o (a.keep c o h m) (a.stayM c o h m)
  stay := fun c o h m => (b.stay c o (a.keep c o h m) (a.stayM c o h m)).trans (a.stay c o h m)
  stayM := fun c o h m => b.stayM c o (a.keep c o h m) (a.stayM c o h m)
  io := fun l h => (b.io l (Nat.lt_of_lt_of_le h a.le)).trans (a.io l h)
  le := Nat.le_trans a.le b.le

/-- what Rep leans on -/
structure Kp (g : Gh) (n : Nat) (H : Hp) (g' : Gh) (n' : Nat) (H' : Hp) : Prop where
  keep : ∀ a o, H a = some o → ¬ g.W a → H' a = some o ∧ ¬ g'.W a
  io : ∀ l, l < n → g'.io l = g.io l
  le : n ≤ n'
theorem Ext.kp {g g' : Gh} {n n' : Nat} {H H' : Hp} (e : Ext g n H g' n' H') (mw : ∀ a, g.M a → g.W a) : Kp g n H g' n' H' :=
  ⟨fun a o h w => ⟨e.keep a o h fun m => w (mw a m), fun w' => w ((e.stay a o h fun m => w (mw a m)).mp w')⟩, e.io, e.le⟩

section
variable {K : Kc} {g g' : Gh} {n n' : Nat} {H H' : Hp}
theorem Kp.rd (k : Kp g n H g' n' H') {a : Addr} {u : HO} (h : Rd H a u ∧ ¬ g.W a) : Rd H' a u ∧ ¬ g'.W a := by
  obtain ⟨h | ⟨o, h⟩, w⟩ := h
  · exact ⟨.inl (k.keep a _ h w).1, (k.keep a _ h w).2⟩
  · exact ⟨.inr ⟨o, (k.keep a _ h w).1⟩, (k.keep a _ h w).2⟩
theorem Kp.ls (k : Kp g n H g' n' H') {a : Addr} {vs : List V} (h : LsR g H a vs) : LsR g' H' a vs := k.keep a _ h.1 h.2
theorem Kp.tp (k : Kp g n H g' n' H') {a : Addr} {vs : List V} (h : TpR K g H a vs) : TpR K g' H' a vs := h.imp k.rd id
mutual
theorem Rep.kp (k : Kp g n H g' n' H') : ∀ {d : D} {v : V}, Rep K g n H d v → Rep K g' n' H' d v
  | .non, _, h => h
  | .bl _, _, h => h
  | .int _, _, h => h
  | .str _, _, h => h
  | .tup _, _, ⟨a, vs, e, h, r⟩ => ⟨a, vs, e, k.tp h, Reps.kp k r⟩
  | .lst _, _, ⟨a, vs, e, h, r⟩ => ⟨a, vs, e, k.ls h, Reps.kp k r⟩
  | .dic _ _, _, ⟨a, kk, ws, e, ⟨⟨kvs, h, e1, e2⟩, w⟩, r1, r2⟩ => ⟨a, kk, ws, e, ⟨⟨kvs, (k.keep a _ h w).1, e1, e2⟩, (k.keep a _ h w).2⟩, Reps.kp k r1, Reps.kp k r2⟩
  | .obj _ _, _, ⟨a, vs, e, ⟨⟨hc, hl, dx, h⟩, w⟩, r⟩ => ⟨a, vs, e, ⟨⟨hc, hl, dx, (k.keep a _ h w).1⟩, (k.keep a _ h w).2⟩, Reps.kp k r⟩
  | .cell l, _, ⟨h, e⟩ => ⟨Nat.lt_of_lt_of_le h k.le, by rw [k.io l h]; exact e⟩
  | .scr _, _, ⟨a, vs, e, h, r⟩ => ⟨a, vs, e, h.imp k.rd id, Reps.kp k r⟩
theorem Reps.kp (k : Kp g n H g' n' H') : ∀ {ds : List D} {vs : List V}, Reps K g n H ds vs → Reps K g' n' H' ds vs
  | [], _, h => h
  | _ :: _, _, ⟨v, r, e, h, t⟩ => ⟨v, r, e, Rep.kp k h, Reps.kp k t⟩
end
theorem Reps.length : ∀ {ds : List D} {vs : List V}, Reps K g n H ds vs → vs.length = ds.length
  | [], _, h => by cases h; rfl
  | _ :: _, _, ⟨v, r, e, _, t⟩ => by
    subst e
    exact congrArg Nat.succ (Reps.length t)
theorem Reps.get : ∀ {ds : List D} {vs : List V} {i : Nat} {d : D}, Reps K g n H ds vs → ds[i]? = some d → ∃ v, vs[i]? = some v ∧ Rep K g n H d v
  | [], _, _, _, _, e => by simp at e
  | _ :: _, _, 0, _, ⟨v, r, e, h, _⟩, e2 => by
    subst e
    simp at e2
    subst e2
    exact ⟨v, rfl, h⟩
  | _ :: ds, _, i + 1, d, ⟨v, r, e, _, t⟩, e2 => by
    subst e
    have e3 : ds[i]? = some d := by simpa using e2
    obtain ⟨u, h1, h2⟩ := Reps.get t e3
    exact ⟨u, by simpa using h1, h2⟩
theorem Reps.append : ∀ {ds es : List D} {vs ws : List V}, Reps K g n H ds vs → Reps K g n H es ws → Reps K g n H (ds ++ es) (vs ++ ws)
  | [], _, _, _, h, t => by cases h; exact t
  | _ :: _, _, _, _, ⟨v, r, e, h, q⟩, t => by
    subst e
    exact ⟨v, r ++ _, rfl, h, Reps.append q t⟩
theorem Reps.set : ∀ {ds : List D} {vs : List V} {d : D} {v : V} (i : Nat), Reps K g n H ds vs → Rep K g n H d v → Reps K g n H (ds.set i d) (vs.set i v)
  | [], _, _, _, _, h, _ => by cases h; rfl
  | _ :: _, _, _, _, 0, ⟨v, r, e, _, q⟩, t => by
    subst e
    exact ⟨_, r, rfl, t, q⟩
  | _ :: _, _, _, _, i + 1, ⟨v, r, e, h, q⟩, t => by
    subst e
    exact ⟨v, _, rfl, h, Reps.set i q t⟩
theorem Reps.erase : ∀ {ds : List D} {vs : List V} (i : Nat), Reps K g n H ds vs → Reps K g n H (ds.eraseIdx i) (vs.eraseIdx i)
  | [], _, _, h => by cases h; rfl
  | _ :: _, _, 0, ⟨v, r, e, _, q⟩ => by
    subst e
    exact q
  | _ :: _, _, i + 1, ⟨v, r, e, h, q⟩ => by
    subst e
    exact ⟨v, _, rfl, h, Reps.erase i q⟩
theorem ScR.sq {a : Addr} {vs : List V} (h : ScR K g H a vs) : SqL K H a vs := h.imp (·.1) id
theorem TpR.sq {a : Addr} {vs : List V} (h : TpR K g H a vs) : SqT K H a vs := h.imp (·.1) id
end

/-- the object at a, held by one slot alone, is d -/
def OwR (K : Kc) (g : Gh) (n : Nat) (H : Hp) (a : Addr) : D → Prop
  | .lst ds => ∃ vs, H a = some (.lst vs) ∧ Reps K g n H ds vs
  | .dic ks es => ∃ kk ws, DcR H a kk ws ∧ Reps K g n H ks kk ∧ Reps K g n H es ws
  | _ => False
def SlR (K : Kc) (g : Gh) (n : Nat) (H : Hp) : Sl → Option V → Prop
  | .un, _ => True
  | .exc c ds, ov => ∃ a oe dd vs, K.xo = some (a, oe) ∧ ov = some (.ref a) ∧ oe.cls = .ref (CL K c) ∧ oe.dict = some dd ∧ (∃ fv, oe.data = .fields fv) ∧ isKnownX K.K c = true ∧ vs.length = (fldsOf c).length ∧ (H dd = some (.xd ((fldsOf c).zip vs)) ∧ ¬ g.W dd) ∧ Reps K g n H ds vs
  | .shr d, ov => ∃ v, ov = some v ∧ Rep K g n H d v
  | .own d, ov => ∃ a, ov = some (.ref a) ∧ g.M a ∧ OwR K g n H a d
def CeR (K : Kc) (g : Gh) (n : Nat) (H : Hp) (a : Addr) : CO → Prop
  | .dead => True
  | .lst ds => g.M a ∧ ∃ vs, H a = some (.lst vs) ∧ Reps K g n H ds vs
  | .dic ks es => g.M a ∧ ∃ kk ws, DcR H a kk ws ∧ Reps K g n H ks kk ∧ Reps K g n H es ws
  | .obj c ds => g.M a ∧ ∃ vs, ObR K H a c vs ∧ Reps K g n H ds vs
def Live (h : List CO) (l : Nat) : Prop := ∃ o, h[l]? = some o ∧ o ≠ .dead
def OwnAt (e : List Sl) (s : L2.St) (i : Nat) (a : Addr) : Prop := (∃ d, e[i]? = some (.own d)) ∧ s[i]? = some (some (.ref a))

/-- the state st of the small Python is s, H -/
structure Abs (K : Kc) (g : Gh) (st : Stt) (s : L2.St) (H : Hp) : Prop where
  mw : ∀ a, g.M a → g.W a
  wt : ∀ a, g.W a → ∃ o, H a = some o
  sl : ∀ (i : Nat) (x : Sl), st.e[i]? = some x → ∃ ov, s[i]? = some ov ∧ SlR K g st.h.length H x ov
  oo : ∀ i j a, OwnAt st.e s i a → OwnAt st.e s j a → i = j
  oc : ∀ i a l, OwnAt st.e s i a → Live st.h l → g.io l ≠ a
  ce : ∀ (l : Nat) (o : CO), st.h[l]? = some o → CeR K g st.h.length H (g.io l) o
  cc : ∀ l m, Live st.h l → Live st.h m → g.io l = g.io m → l = m

section
variable {K : Kc} {g g' : Gh} {n n' : Nat} {H H' : Hp} {st : Stt} {s : L2.St}
theorem OwR.kp (k : Kp g n H g' n' H') {a : Addr} (ha : ∀ o, H a = some o → H' a = some o) : ∀ {d : D}, OwR K g n H a d → OwR K g' n' H' a d
  | .lst _, ⟨vs, h, r⟩ => ⟨vs, ha _ h, Reps.kp k r⟩
  | .dic _ _, ⟨kk, ws, ⟨kvs, h, e1, e2⟩, r1, r2⟩ => ⟨kk, ws, ⟨kvs, ha _ h, e1, e2⟩, Reps.kp k r1, Reps.kp k r2⟩
theorem CeR.kp (k : Kp g n H g' n' H') {a : Addr} (ha : ∀ o, H a = some o → H' a = some o) (hm : g.M a → g'.M a) : ∀ {c : CO}, CeR K g n H a c → CeR K g' n' H' a c
  | .dead, _ => trivial
  | .lst _, ⟨m, vs, h, r⟩ => ⟨hm m, vs, ha _ h, Reps.kp k r⟩
  | .dic _ _, ⟨m, kk, ws, ⟨kvs, h, e1, e2⟩, r1, r2⟩ => ⟨hm m, kk, ws, ⟨kvs, ha _ h, e1, e2⟩, Reps.kp k r1, Reps.kp k r2⟩
  | .obj _ _, ⟨m, vs, ⟨hc, hl, dx, h⟩, r⟩ => ⟨hm m, vs, ⟨hc, hl, dx, ha _ h⟩, Reps.kp k r⟩
theorem SlR.kpE (k : Kp g n H g' n' H') {c : Nat} {ds : List D} {ov : Option V} : SlR K g n H (.exc c ds) ov → SlR K g' n' H' (.exc c ds) ov
  | ⟨a, oe, dd, vs, e1, e2, e3, e4, e5, e6, e7, ⟨h, w⟩, r⟩ => ⟨a, oe, dd, vs, e1, e2, e3, e4, e5, e6, e7, k.keep dd _ h w, r.kp k⟩
theorem SlR.kp (k : Kp g n H g' n' H') (ho : ∀ a o, g.M a → H a = some o → H' a = some o ∧ g'.M a) : ∀ {x : Sl} {ov : Option V}, SlR K g n H x ov → SlR K g' n' H' x ov
  | .un, _, _ => trivial
  | .shr _, _, ⟨v, e, r⟩ => ⟨v, e, r.kp k⟩
  | .exc _ _, _, ⟨a, oe, dd, vs, e1, e2, e3, e4, e5, e6, e7, ⟨h, w⟩, r⟩ => ⟨a, oe, dd, vs, e1, e2, e3, e4, e5, e6, e7, k.keep dd _ h w, r.kp k⟩
  | .own d, _, ⟨a, e, m, r⟩ => by
    cases d with
    | lst ds => obtain ⟨vs, h, q⟩ := r; exact ⟨a, e, (ho a _ m h).2, vs, (ho a _ m h).1, q.kp k⟩
    | dic ks es => obtain ⟨kk, ws, ⟨kvs, h, e1, e2⟩, r1, r2⟩ := r; exact ⟨a, e, (ho a _ m h).2, kk, ws, ⟨kvs, (ho a _ m h).1, e1, e2⟩, r1.kp k, r2.kp k⟩
    | _ => exact r.elim
theorem Kp.alloc (wt : ∀ a, g.W a → ∃ o, H a = some o) {p : Addr} (hp : H p = none) {o : HO} : Kp g n H g n (upd H p o) :=
  ⟨fun a u h w => ⟨by rw [upd_ne (ne_of_none h hp)]; exact h, w⟩, fun _ _ => rfl, Nat.le_refl _⟩
theorem Kp.allocO (wt : ∀ a, g.W a → ∃ o, H a = some o) {p : Addr} (hp : H p = none) {o : HO} : Kp g n H (g.add p) n (upd H p o) :=
  ⟨fun a u h w => ⟨by rw [upd_ne (ne_of_none h hp)]; exact h, fun z => z.elim (ne_of_none h hp) w⟩, fun _ _ => rfl, Nat.le_refl _⟩
/-- a new object that is shared -/
theorem Abs.alloc (A : Abs K g st s H) {p : Addr} (hp : H p = none) (o : HO) : Abs K g st s (upd H p o) ∧ Ext g st.h.length H g st.h.length (upd H p o) := by
  have k : Kp g st.h.length H g st.h.length (upd H p o) := Kp.alloc A.wt hp
  have ke : ∀ a u, H a = some u → upd H p o a = some u := fun a u h => by rw [upd_ne (ne_of_none h hp)]; exact h
  refine ⟨⟨A.mw, fun a w => ?_, fun i x e => ?_, A.oo, A.oc, fun l c e => CeR.kp k (ke _) id (A.ce l c e), A.cc⟩, ⟨fun a u h _ => ke a u h, fun _ _ _ _ => Iff.rfl, fun _ _ _ m => m, fun _ _ => rfl, Nat.le_refl _⟩⟩
  · obtain ⟨u, h⟩ := A.wt a w
    exact ⟨u, ke a u h⟩
  · obtain ⟨ov, e1, r⟩ := A.sl i x e
    exact ⟨ov, e1, r.kp k fun a o m h => ⟨ke a o h, m⟩⟩
/-- a new object that one alone holds -/
theorem Abs.allocO (A : Abs K g st s H) {p : Addr} (hp : H p = none) (o : HO) : Abs K (g.add p) st s (upd H p o) ∧ Ext g st.h.length H (g.add p) st.h.length (upd H p o) := by
  have k : Kp g st.h.length H (g.add p) st.h.length (upd H p o) := Kp.allocO A.wt hp
  have ke : ∀ a u, H a = some u → upd H p o a = some u := fun a u h => by rw [upd_ne (ne_of_none h hp)]; exact h
  refine ⟨⟨fun a m => m.imp id (A.mw a), fun a w => ?_, fun i x e => ?_, A.oo, A.oc, fun l c e => CeR.kp k (ke _) .inr (A.ce l c e), A.cc⟩,
    ⟨fun a u h _ => ke a u h, fun a u h _ => ⟨fun z => z.elim (fun e => absurd e (ne_of_none h hp)) id, .inr⟩, fun a u h m z => z.elim (ne_of_none h hp) m, fun _ _ => rfl, Nat.le_refl _⟩⟩
  · rcases w with e | w
    · subst e; exact ⟨o, upd_same⟩
    · obtain ⟨u, h⟩ := A.wt a w
      exact ⟨u, ke a u h⟩
  · obtain ⟨ov, e1, r⟩ := A.sl i x e
    exact ⟨ov, e1, r.kp k fun a o m h => ⟨ke a o h, .inr m⟩⟩
end

/-- a value that may be looked at: shared, or the content of a held object -/
def Vw (K : Kc) (g : Gh) (n : Nat) (H : Hp) : D → V → Prop
  | .lst ds, v => ∃ a vs, v = .ref a ∧ H a = some (.lst vs) ∧ Reps K g n H ds vs
  | .dic ks es, v => ∃ a kk ws, v = .ref a ∧ DcR H a kk ws ∧ Reps K g n H ks kk ∧ Reps K g n H es ws
  | .obj c ds, v => ∃ a vs, v = .ref a ∧ ObR K H a c vs ∧ Reps K g n H ds vs
  | d, v => Rep K g n H d v
/-- an operand: a shared value, or the content of a held container -/
def contD : D → Bool
  | .lst _ => true
  | .dic _ _ => true
  | _ => false
def Opr (K : Kc) (g : Gh) (n : Nat) (H : Hp) (d : D) (v : V) : Prop := Rep K g n H d v ∨ (contD d = true ∧ Vw K g n H d v)
def Oprs (K : Kc) (g : Gh) (n : Nat) (H : Hp) : List D → List V → Prop
  | [], vs => vs = []
  | d :: ds, vs => ∃ v r, vs = v :: r ∧ Opr K g n H d v ∧ Oprs K g n H ds r
def Vws (K : Kc) (g : Gh) (n : Nat) (H : Hp) : List D → List V → Prop
  | [], vs => vs = []
  | d :: ds, vs => ∃ v r, vs = v :: r ∧ Vw K g n H d v ∧ Vws K g n H ds r
section
variable {K : Kc} {g g' : Gh} {n n' : Nat} {H H' : Hp} {st : Stt} {s : L2.St}
theorem Rep.vw : ∀ {d : D} {v : V}, Rep K g n H d v → Vw K g n H d v
  | .non, _, h => h
  | .bl _, _, h => h
  | .int _, _, h => h
  | .str _, _, h => h
  | .tup _, _, h => h
  | .lst _, _, ⟨a, vs, e, h, r⟩ => ⟨a, vs, e, h.1, r⟩
  | .dic _ _, _, ⟨a, kk, ws, e, ⟨h, _⟩, r1, r2⟩ => ⟨a, kk, ws, e, h, r1, r2⟩
  | .obj _ _, _, ⟨a, vs, e, ⟨h, _⟩, r⟩ => ⟨a, vs, e, h, r⟩
  | .cell _, _, h => h
  | .scr _, _, h => h
theorem OwR.vw {a : Addr} : ∀ {d : D}, OwR K g n H a d → Vw K g n H d (.ref a)
  | .lst _, ⟨vs, h, r⟩ => ⟨a, vs, rfl, h, r⟩
  | .dic _ _, ⟨kk, ws, h, r1, r2⟩ => ⟨a, kk, ws, rfl, h, r1, r2⟩
/-- what a shared value shows -/
theorem Abs.view (A : Abs K g st s H) : ∀ {d : D} {v : V}, Rep K g st.h.length H d v → Vw K g st.h.length H (view st.h d) v
  | .non, _, h => h
  | .bl _, _, h => h
  | .int _, _, h => h
  | .str _, _, h => h
  | .tup _, _, h => h.vw
  | .lst _, _, h => h.vw
  | .dic _ _, _, h => h.vw
  | .obj _ _, _, h => h.vw
  | .scr _, _, h => h
  | .cell l, v, ⟨h, e⟩ => by
    subst e
    have q : st.h[l]? = some (st.h[l]'h) := List.getElem?_eq_getElem h
    have c := A.ce l _ q
    have ev : Mp.view st.h (.cell l) = (match st.h[l]? with
      | some (.lst ds) => D.lst ds
      | some (.dic ks vs) => D.dic ks vs
      | some (.obj c ds) => D.obj c ds
      | _ => D.cell l) := rfl
    rw [ev, q]
    cases hc : st.h[l]'h with
    | dead => exact ⟨h, rfl⟩
    | lst ds => rw [hc] at c; obtain ⟨_, vs, h1, r⟩ := c; exact ⟨_, vs, rfl, h1, r⟩
    | dic ks es => rw [hc] at c; obtain ⟨_, kk, ws, h1, r1, r2⟩ := c; exact ⟨_, kk, ws, rfl, h1, r1, r2⟩
    | obj k ds => rw [hc] at c; obtain ⟨_, vs, h1, r⟩ := c; exact ⟨_, vs, rfl, h1, r⟩
theorem view_cont {h : List CO} {d : D} (e : contD d = true) : Mp.view h d = d := by cases d <;> first | rfl | cases e
theorem Opr.view {d : D} {v : V} (o : Opr K g st.h.length H d v) (A : Abs K g st s H) : Vw K g st.h.length H (Mp.view st.h d) v := by
  rcases o with r | ⟨e, r⟩
  · exact A.view r
  · rw [view_cont e]; exact r
theorem Oprs.view (A : Abs K g st s H) : ∀ {ds : List D} {vs : List V}, Oprs K g st.h.length H ds vs → Vws K g st.h.length H (ds.map (Mp.view st.h)) vs
  | [], _, h => h
  | _ :: _, _, ⟨v, r, e, h, t⟩ => ⟨v, r, e, h.view A, Oprs.view A t⟩
end
end Mp
namespace Mp
open PySem PySem.Spec L2

/-- how a result stands: m: nobody else holds it -/
def RepM (K : Kc) (g : Gh) (st : Stt) (s : L2.St) (H : Hp) : Bool → D → V → Prop
  | false, d, v => Rep K g st.h.length H d v
  | true, d, v => (∃ a, v = .ref a ∧ g.M a ∧ OwR K g st.h.length H a d ∧ (∀ i, ¬ OwnAt st.e s i a) ∧ ∀ l, Live st.h l → g.io l ≠ a) ∨ (scalD d = true ∧ Rep K g st.h.length H d v)
/-- how an exception stands: its class's number and fields; its class, its own dict -/
abbrev ExT := Gh → Nat → Hp → Nat → List D → Value → Option Addr → Prop
/-- the reading of an expression -/
def rdE (K : Kc) (ER : ExT) (Wx : WX) (w : Stt → PD → PX → Prop) (m : Bool) : TE := fun s H Q => ∃ (g : Gh) (st : Stt) (Qd : PD) (Xd : PX), Abs K g st s H ∧ w st Qd Xd ∧
  (∀ d st' v g' H', Qd d st' → Ext g st.h.length H g' st'.h.length H' → Abs K g' st' s H' → RepM K g' st' s H' m d v → Q v H') ∧
  (∀ c fs st' cls dd g' H', Xd c fs st' → Ext g st.h.length H g' st'.h.length H' → Abs K g' st' s H' → ER g' st'.h.length H' c fs cls dd → Wx cls dd s H')
/-- .. of a test -/
def rdT (K : Kc) (ER : ExT) (Wx : WX) (w : Stt → (Bool → Stt → Prop) → PX → Prop) : TT := fun s H Q => ∃ (g : Gh) (st : Stt) (Qd : Bool → Stt → Prop) (Xd : PX), Abs K g st s H ∧ w st Qd Xd ∧
  (∀ b st' g' H', Qd b st' → Ext g st.h.length H g' st'.h.length H' → Abs K g' st' s H' → Q b H') ∧
  (∀ c fs st' cls dd g' H', Xd c fs st' → Ext g st.h.length H g' st'.h.length H' → Abs K g' st' s H' → ER g' st'.h.length H' c fs cls dd → Wx cls dd s H')
/-- .. of operands, of values to be kept -/
def rdA (K : Kc) (ER : ExT) (Wx : WX) (w : Stt → (List D → Stt → Prop) → PX → Prop) : TA := fun s H Q => ∃ (g : Gh) (st : Stt) (Qd : List D → Stt → Prop) (Xd : PX), Abs K g st s H ∧ w st Qd Xd ∧
  (∀ ds st' vs g' H', Qd ds st' → Ext g st.h.length H g' st'.h.length H' → Abs K g' st' s H' → Oprs K g' st'.h.length H' ds vs → Q vs H') ∧
  (∀ c fs st' cls dd g' H', Xd c fs st' → Ext g st.h.length H g' st'.h.length H' → Abs K g' st' s H' → ER g' st'.h.length H' c fs cls dd → Wx cls dd s H')
def rdL (K : Kc) (ER : ExT) (Wx : WX) (n : Nat) (w : Stt → (List D → Stt → Prop) → PX → Prop) : TA := fun s H Q => ∃ (g : Gh) (st : Stt) (Qd : List D → Stt → Prop) (Xd : PX), Abs K g st s H ∧ w st Qd Xd ∧
  (∀ ds st' vs g' H', Qd ds st' → Ext g st.h.length H g' st'.h.length H' → Abs K g' st' s H' → Reps K g' st'.h.length H' ds vs → vs.length = n → Q vs H') ∧
  (∀ c fs st' cls dd g' H', Xd c fs st' → Ext g st.h.length H g' st'.h.length H' → Abs K g' st' s H' → ER g' st'.h.length H' c fs cls dd → Wx cls dd s H')
/-- an operand's reading -/
def rdO (K : Kc) (ER : ExT) (Wx : WX) (C : Calls) : Ex → TE
  | .brw i => tVar i
  | t => rdE K ER Wx (wE C t) false

section
variable {X : Cx} {e : Expr} {es : List Expr} {t t' : TE} {u u' : TA} {tt tt' : TT}
theorem peImp (h : PE X e t) (i : ∀ s H Q, t' s H Q → t s H Q) : PE X e t' := ⟨fun pins s σ H Q I q => h.run pins s σ H Q I (i σ H Q q)⟩
theorem ptImp (h : PT X e tt) (i : ∀ s H Q, tt' s H Q → tt s H Q) : PT X e tt' := ⟨fun pins s σ H Q I q => h.run pins s σ H Q I (i σ H Q q)⟩
theorem pwImp (h : PW X e tt) (i : ∀ s H Q, tt' s H Q → tt s H Q) : PW X e tt' := ⟨fun wh pins s σ H Q I q => h.run wh pins s σ H Q I (i σ H Q q)⟩
theorem paImp (h : PA X es u) (i : ∀ s H Q, u' s H Q → u s H Q) : PA X es u' := ⟨fun pos pins s σ H Q I q => h.run pos pins s σ H Q I (i σ H Q q)⟩
end

section
variable {K : Kc} {g g' : Gh} {n n' : Nat} {H H' : Hp} {st : Stt} {s : L2.St} {ER : ExT} {Wx : WX} {C : Calls}
/-- Rep does not look at M -/
theorem Kp.sameW (hW : ∀ a, g'.W a ↔ g.W a) (hi : ∀ l, g'.io l = g.io l) : Kp g n H g' n H := ⟨fun a _ h w => ⟨h, fun z => w ((hW a).mp z)⟩, fun l _ => hi l, Nat.le_refl _⟩
theorem Kp.del {p : Addr} : Kp g n H (g.del p) n H := ⟨fun a _ h w => ⟨h, fun z => w z.2⟩, fun _ _ => rfl, Nat.le_refl _⟩
theorem Abs.slot (A : Abs K g st s H) {i : Nat} {d : D} (h : rdS st.e i = some d) : ∃ v, s[i]? = some (some v) ∧ Opr K g st.h.length H d v := by
  unfold rdS at h
  cases q : st.e[i]? with
  | none => rw [q] at h; cases h
  | some x =>
    rw [q] at h
    obtain ⟨ov, e1, r⟩ := A.sl i x q
    cases x with
    | un => cases h
    | exc c' d' => cases h
    | shr d' =>
      cases h
      obtain ⟨v, e2, r⟩ := r
      exact ⟨v, by rw [e1, e2], .inl r⟩
    | own d' =>
      cases h
      obtain ⟨a, e2, _, r⟩ := r
      refine ⟨.ref a, by rw [e1, e2], ?_⟩
      cases d with
      | lst ds => exact .inr ⟨rfl, r.vw⟩
      | dic ks es => exact .inr ⟨rfl, r.vw⟩
      | _ => exact r.elim
/-- a held container is given away: it is frozen from now on -/
theorem Abs.freeze (A : Abs K g st s H) {i : Nat} {d : D} (hi : st.e[i]? = some (.own d)) : ∃ a, s[i]? = some (some (.ref a)) ∧ Abs K (g.del a) ⟨st.e.set i (.shr d), st.h⟩ s H ∧ Ext g st.h.length H (g.del a) st.h.length H ∧ Rep K (g.del a) st.h.length H d (.ref a) := by
  obtain ⟨ov, e1, a, e2, m, r⟩ := A.sl i _ hi
  subst e2
  have ow : OwnAt st.e s i a := ⟨⟨d, hi⟩, e1⟩
  have k : Kp g st.h.length H (g.del a) st.h.length H := Kp.del
  have rd : Rep K (g.del a) st.h.length H d (.ref a) := by
    cases d with
    | lst ds => obtain ⟨vs, h, q⟩ := r; exact ⟨a, vs, rfl, ⟨h, fun z => z.1 rfl⟩, q.kp k⟩
    | dic ks es => obtain ⟨kk, ws, h, q1, q2⟩ := r; exact ⟨a, kk, ws, rfl, ⟨h, fun z => z.1 rfl⟩, q1.kp k, q2.kp k⟩
    | _ => exact r.elim
  have hlt : i < st.e.length := by
    rcases Nat.lt_or_ge i st.e.length with h | h
    · exact h
    · rw [List.getElem?_eq_none h] at hi; cases hi
  have own_of : ∀ j b, OwnAt (st.e.set i (.shr d)) s j b → OwnAt st.e s j b ∧ j ≠ i := fun j b ⟨⟨d', h1⟩, h2⟩ => by
    by_cases hj : j = i
    · subst hj
      rw [List.getElem?_set_self hlt] at h1
      cases h1
    · rw [List.getElem?_set_ne (Ne.symm hj)] at h1
      exact ⟨⟨⟨d', h1⟩, h2⟩, hj⟩
  refine ⟨a, e1, ⟨fun b z => ⟨z.1, A.mw b z.2⟩, fun b z => A.wt b z.2, fun j x h => ?_, fun j j' b h1 h2 => A.oo j j' b (own_of j b h1).1 (own_of j' b h2).1, fun j b l h1 h2 => A.oc j b l (own_of j b h1).1 h2, fun l o h => ?_, A.cc⟩,
    ⟨fun _ _ h _ => h, fun b o h m' => ⟨fun z => z.2, fun z => ⟨fun e => m' (by rw [e]; exact m), z⟩⟩, fun b o h m' z => m' z.2, fun _ _ => rfl, Nat.le_refl _⟩, rd⟩
  · by_cases hj : j = i
    · subst hj
      rw [List.getElem?_set_self hlt] at h
      cases h
      exact ⟨_, e1, _, rfl, rd⟩
    · rw [List.getElem?_set_ne (Ne.symm hj)] at h
      obtain ⟨ov, f1, q⟩ := A.sl j x h
      refine ⟨ov, f1, ?_⟩
      cases x with
      | un => trivial
      | shr d' => obtain ⟨v, f2, q⟩ := q; exact ⟨v, f2, q.kp k⟩
      | exc c' d' => exact q.kpE k
      | own d' =>
        obtain ⟨b, f2, m', q⟩ := q
        have nb : b ≠ a := fun z => hj (A.oo j i b ⟨⟨d', h⟩, by rw [f1, f2]⟩ (by rw [z]; exact ow))
        exact ⟨b, f2, ⟨nb, m'⟩, q.kp k fun _ z => z⟩
  · have c := A.ce l o h
    cases o with
    | dead => trivial
    | _ => exact CeR.kp k (fun _ z => z) (fun z => ⟨A.oc i a l ow ⟨_, h, by intro z; cases z⟩, z⟩) c
/-- a held container is taken out of its slot -/
theorem Abs.take (A : Abs K g st s H) {i : Nat} {d : D} (hi : st.e[i]? = some (.own d)) : ∃ a, s[i]? = some (some (.ref a)) ∧ Abs K g ⟨st.e.set i .un, st.h⟩ s H ∧ g.M a ∧ OwR K g st.h.length H a d ∧ (∀ j, ¬ OwnAt (st.e.set i .un) s j a) ∧ ∀ l, Live st.h l → g.io l ≠ a := by
  obtain ⟨ov, e1, a, e2, m, r⟩ := A.sl i _ hi
  subst e2
  have ow : OwnAt st.e s i a := ⟨⟨d, hi⟩, e1⟩
  have hlt : i < st.e.length := by
    rcases Nat.lt_or_ge i st.e.length with h | h
    · exact h
    · rw [List.getElem?_eq_none h] at hi; cases hi
  have own_of : ∀ j b, OwnAt (st.e.set i .un) s j b → OwnAt st.e s j b ∧ j ≠ i := fun j b ⟨⟨d', h1⟩, h2⟩ => by
    by_cases hj : j = i
    · subst hj
      rw [List.getElem?_set_self hlt] at h1
      cases h1
    · rw [List.getElem?_set_ne (Ne.symm hj)] at h1
      exact ⟨⟨⟨d', h1⟩, h2⟩, hj⟩
  refine ⟨a, e1, ⟨A.mw, A.wt, fun j x h => ?_, fun j j' b h1 h2 => A.oo j j' b (own_of j b h1).1 (own_of j' b h2).1, fun j b l h1 h2 => A.oc j b l (own_of j b h1).1 h2, A.ce, A.cc⟩, m, r, fun j z => (own_of j a z).2 (A.oo j i a (own_of j a z).1 ow), fun l z => A.oc i a l ow z⟩
  by_cases hj : j = i
  · subst hj
    rw [List.getElem?_set_self hlt] at h
    cases h
    exact ⟨_, e1, trivial⟩
  · rw [List.getElem?_set_ne (Ne.symm hj)] at h
    exact A.sl j x h
/-- an operand, then the others -/
theorem split_cons {ex : Ex} {rest : List Ex} {Q : List V → Hp → Prop} (h : rdA K ER Wx (wA C (ex :: rest)) s H Q) :
    rdO K ER Wx C ex s H fun x H1 => rdA K ER Wx (wA C rest) s H1 fun xs H2 => Q (x :: xs) H2 := by
  obtain ⟨g, st, Qd, Xd, A, w, hq, hx⟩ := h
  by_cases b : ∃ i, ex = .brw i
  · obtain ⟨i, rfl⟩ := b
    obtain ⟨w0, w1⟩ : (rdS st.e i).isSome = true ∧ wA C rest st (fun ds st2 => ∃ d, rdS st2.e i = some d ∧ Qd (d :: ds) st2) Xd := by
      simpa only [wA] using w
    obtain ⟨d0, hd0⟩ := Option.isSome_iff_exists.mp w0
    obtain ⟨v, e1, _⟩ := A.slot hd0
    refine ⟨v, e1, g, st, _, Xd, A, w1, fun ds st' vs g' H' ⟨d, hd, q⟩ ex' A' r => ?_, hx⟩
    obtain ⟨v', e2, r'⟩ := A'.slot hd
    rw [e1] at e2
    cases e2
    exact hq _ _ _ _ _ q ex' A' ⟨v, vs, rfl, r', r⟩
  · have e1 : wA C (ex :: rest) st Qd Xd = wE C ex st (fun d st1 => wA C rest st1 (fun ds st2 => Qd (d :: ds) st2) Xd) Xd := by
      cases ex <;> first | rfl | exact absurd ⟨_, rfl⟩ b
    have e2 : rdO K ER Wx C ex = rdE K ER Wx (wE C ex) false := by
      cases ex <;> first | rfl | exact absurd ⟨_, rfl⟩ b
    rw [e1] at w
    rw [e2]
    refine ⟨g, st, _, Xd, A, w, fun d st1 v g1 H1 w1 x1 A1 r1 => ?_, hx⟩
    refine ⟨g1, st1, _, Xd, A1, w1, fun ds st2 vs g2 H2 q x2 A2 r2 => ?_, fun c fs st2 cls dd g2 H2 q x2 A2 r2 => hx _ _ _ _ _ _ _ q (x1.trans x2) A2 r2⟩
    exact hq _ _ _ _ _ q (x1.trans x2) A2 ⟨v, vs, rfl, .inl (Rep.kp (x2.kp A1.mw) r1), r2⟩
theorem split_nil {Q : List V → Hp → Prop} (h : rdA K ER Wx (wA C []) s H Q) : Q [] H := by
  obtain ⟨g, st, Qd, Xd, A, w, hq, hx⟩ := h
  have w' : Qd [] st := by simpa only [wA] using w
  exact hq _ _ _ _ _ w' (Ext.refl _ _ _) A rfl
theorem splitL_cons {ex : Ex} {rest : List Ex} {Q : List V → Hp → Prop} (h : rdL K ER Wx (rest.length + 1) (wL C (ex :: rest)) s H Q) :
    rdE K ER Wx (wE C ex) false s H fun x H1 => rdL K ER Wx rest.length (wL C rest) s H1 fun xs H2 => Q (x :: xs) H2 := by
  obtain ⟨g, st, Qd, Xd, A, w, hq, hx⟩ := h
  have w' : wE C ex st (fun d st1 => wL C rest st1 (fun ds st2 => Qd (d :: ds) st2) Xd) Xd := by simpa only [wL] using w
  refine ⟨g, st, _, Xd, A, w', fun d st1 v g1 H1 w1 x1 A1 r1 => ?_, hx⟩
  refine ⟨g1, st1, _, Xd, A1, w1, fun ds st2 vs g2 H2 q x2 A2 r2 hl => ?_, fun c fs st2 cls dd g2 H2 q x2 A2 r2 => hx _ _ _ _ _ _ _ q (x1.trans x2) A2 r2⟩
  exact hq _ _ _ _ _ q (x1.trans x2) A2 ⟨v, vs, rfl, Rep.kp (x2.kp A1.mw) r1, r2⟩ (congrArg Nat.succ hl)
theorem splitL_nil {Q : List V → Hp → Prop} (h : rdL K ER Wx 0 (wL C []) s H Q) : Q [] H := by
  obtain ⟨g, st, Qd, Xd, A, w, hq, hx⟩ := h
  have w' : Qd [] st := by simpa only [wL] using w
  exact hq _ _ _ _ _ w' (Ext.refl _ _ _) A rfl rfl
end
end Mp
namespace Mp
open PySem PySem.Spec L2

/-- behind the operands: the operation's wish -/
def OpPost (K : Kc) (s : L2.St) (o : Op) (m : Bool) (vs : List V) (H : Hp) (Q : VK) : Prop :=
  ∃ (g : Gh) (st : Stt) (ds : List D) (Qd : D → Prop), Abs K g st s H ∧ Vws K g st.h.length H ds vs ∧ opW o ds Qd ∧
    ∀ d v g' H', Qd d → Ext g st.h.length H g' st.h.length H' → Abs K g' st s H' → RepM K g' st s H' m d v → Q v H'
section
variable {K : Kc} {s : L2.St} {H : Hp} {ER : ExT} {Wx : WX} {C : Calls} {Q : VK} {o : Op} {m : Bool}
theorem rdE_op {es : List Ex} (h : rdE K ER Wx (wE C (.op o es)) m s H Q) : rdA K ER Wx (wA C es) s H fun vs H' => OpPost K s o m vs H' Q := by
  obtain ⟨g, st, Qd, Xd, A, w, hq, hx⟩ := h
  have w' : wA C es st (fun ds st1 => opW o (ds.map (view st1.h)) fun d => Qd d st1) Xd := by simpa only [wE] using w
  exact ⟨g, st, _, Xd, A, w', fun ds st' vs g' H' q x A' r => ⟨g', st', _, _, A', r.view A', q, fun d v g2 H2 qd x2 A2 r2 => hq _ _ _ _ _ qd (x.trans x2) A2 r2⟩, hx⟩
theorem rdE_mono {w : Stt → PD → PX → Prop} {Q' : VK} (h : rdE K ER Wx w m s H Q) (i : ∀ v H', Q v H' → Q' v H') : rdE K ER Wx w m s H Q' := by
  obtain ⟨g, st, Qd, Xd, A, w, hq, hx⟩ := h
  exact ⟨g, st, Qd, Xd, A, w, fun d st' v g' H' q x A' r => i _ _ (hq d st' v g' H' q x A' r), hx⟩
theorem rdO_mono {t : Ex} {Q' : VK} (h : rdO K ER Wx C t s H Q) (i : ∀ v H', Q v H' → Q' v H') : rdO K ER Wx C t s H Q' := by
  by_cases b : ∃ j, t = .brw j
  · obtain ⟨j, rfl⟩ := b
    obtain ⟨v, e, q⟩ := h
    exact ⟨v, e, i _ _ q⟩
  · have e2 : rdO K ER Wx C t = rdE K ER Wx (wE C t) false := by
      cases t <;> first | rfl | exact absurd ⟨_, rfl⟩ b
    rw [e2] at h ⊢
    exact rdE_mono h i
theorem rdA_mono {w : Stt → (List D → Stt → Prop) → PX → Prop} {R R' : List V → Hp → Prop} (h : rdA K ER Wx w s H R) (i : ∀ v H', R v H' → R' v H') : rdA K ER Wx w s H R' := by
  obtain ⟨g, st, Qd, Xd, A, w, hq, hx⟩ := h
  exact ⟨g, st, Qd, Xd, A, w, fun d st' v g' H' q x A' r => i _ _ (hq d st' v g' H' q x A' r), hx⟩
theorem rdL_mono {n : Nat} {w : Stt → (List D → Stt → Prop) → PX → Prop} {R R' : List V → Hp → Prop} (h : rdL K ER Wx n w s H R) (i : ∀ v H', R v H' → R' v H') : rdL K ER Wx n w s H R' := by
  obtain ⟨g, st, Qd, Xd, A, w, hq, hx⟩ := h
  exact ⟨g, st, Qd, Xd, A, w, fun d st' v g' H' q x A' r l => i _ _ (hq d st' v g' H' q x A' r l), hx⟩
/-- two operands -/
theorem rdE_op2 {a b : Ex} (h : rdE K ER Wx (wE C (.op o [a, b])) m s H Q) : rdO K ER Wx C a s H fun x H1 => rdO K ER Wx C b s H1 fun y H2 => OpPost K s o m [x, y] H2 Q :=
  rdO_mono (split_cons (rdE_op h)) fun x H1 h1 => rdO_mono (split_cons h1) fun y H2 h2 => split_nil h2
theorem rdE_op1 {a : Ex} (h : rdE K ER Wx (wE C (.op o [a])) m s H Q) : rdO K ER Wx C a s H fun x H1 => OpPost K s o m [x] H1 Q :=
  rdO_mono (split_cons (rdE_op h)) fun x H1 h1 => split_nil h1

/-! ### values -/
theorem Vws.two {g : Gh} {n : Nat} {ds : List D} {x y : V} (h : Vws K g n H ds [x, y]) : ∃ a b, ds = [a, b] ∧ Vw K g n H a x ∧ Vw K g n H b y := by
  match ds, h with
  | [], h => cases h
  | [_], ⟨_, _, e, _, e2⟩ => cases e; cases e2
  | [a, b], ⟨_, _, e, h1, _, _, e2, h2, _⟩ => cases e; cases e2; exact ⟨a, b, rfl, h1, h2⟩
  | _ :: _ :: _ :: _, ⟨_, _, e, _, _, _, e2, _, _, _, e3, _⟩ => cases e; cases e2; cases e3
theorem Vws.one {g : Gh} {n : Nat} {ds : List D} {x : V} (h : Vws K g n H ds [x]) : ∃ a, ds = [a] ∧ Vw K g n H a x := by
  match ds, h with
  | [], h => cases h
  | [a], ⟨_, _, e, h1, _⟩ => cases e; exact ⟨a, rfl, h1⟩
  | _ :: _ :: _, ⟨_, _, e, _, _, _, e2, _⟩ => cases e; cases e2
theorem Vws.to1 {g : Gh} {n : Nat} {a : D} {vs : List V} (h : Vws K g n H [a] vs) : ∃ x, vs = [x] ∧ Vw K g n H a x := by
  obtain ⟨x, r, e, h1, h2⟩ := h
  cases h2
  exact ⟨x, e, h1⟩
theorem Vws.to2 {g : Gh} {n : Nat} {a b : D} {vs : List V} (h : Vws K g n H [a, b] vs) : ∃ x y, vs = [x, y] ∧ Vw K g n H a x ∧ Vw K g n H b y := by
  obtain ⟨x, r, e, h1, y, r2, e2, h2, h3⟩ := h
  cases h3
  subst e2
  exact ⟨x, y, e, h1, h2⟩
theorem int2_inv {ds : List D} {k : Int → Int → Prop} (h : int2 ds k) : ∃ i j, ds = [.int i, .int j] ∧ k i j := by
  unfold int2 at h
  split at h
  · exact ⟨_, _, rfl, h⟩
  · exact h.elim
theorem int1_inv {ds : List D} {k : Int → Prop} (h : int1 ds k) : ∃ i, ds = [.int i] ∧ k i := by
  unfold int1 at h
  split at h
  · exact ⟨_, rfl, h⟩
  · exact h.elim
theorem any1_inv {ds : List D} {k : D → Prop} (h : any1 ds k) : ∃ a, ds = [a] ∧ k a := by
  unfold any1 at h
  split at h
  · exact ⟨_, rfl, h⟩
  · exact h.elim
theorem any2_inv {ds : List D} {k : D → D → Prop} (h : any2 ds k) : ∃ a b, ds = [a, b] ∧ k a b := by
  unfold any2 at h
  split at h
  · exact ⟨_, _, rfl, h⟩
  · exact h.elim
/-- a plain result -/
theorem OpPost.plain {g : Gh} {st : Stt} {Qd : D → Prop} {d : D} {v : V} (A : Abs K g st s H) (hq : ∀ d v g' H', Qd d → Ext g st.h.length H g' st.h.length H' → Abs K g' st s H' → RepM K g' st s H' false d v → Q v H') (q : Qd d) (r : Rep K g st.h.length H d v) : Q v H :=
  hq _ _ _ _ q (Ext.refl _ _ _) A r
/-- a new list -/
theorem new_lst {g : Gh} {st : Stt} {Qd : D → Prop} {ds : List D} {vs : List V} (A : Abs K g st s H) (hq : ∀ d v g' H', Qd d → Ext g st.h.length H g' st.h.length H' → Abs K g' st s H' → RepM K g' st s H' m d v → Q v H') (q : Qd (.lst ds)) (r : Reps K g st.h.length H ds vs) {p : Addr} (hp : H p = none) :
    Q (.ref p) (upd H p (.lst vs)) := by
  cases m with
  | false =>
    obtain ⟨A', x⟩ := A.alloc hp (.lst vs)
    exact hq _ _ _ _ q x A' ⟨p, vs, rfl, ⟨upd_same, fun w => by obtain ⟨o, h⟩ := A.wt p w; rw [hp] at h; cases h⟩, r.kp (x.kp A.mw)⟩
  | true =>
    obtain ⟨A', x⟩ := A.allocO hp (.lst vs)
    refine hq _ _ _ _ q x A' (.inl ⟨p, rfl, .inl rfl, ⟨vs, upd_same, r.kp (x.kp A.mw)⟩, fun i z => ?_, fun l z e => ?_⟩)
    · obtain ⟨⟨d, h1⟩, h2⟩ := z
      obtain ⟨ov, e1, a, e2, m', _⟩ := A.sl i _ h1
      rw [h2] at e1
      cases e1
      cases e2
      obtain ⟨o, h⟩ := A.wt p (A.mw p m')
      rw [hp] at h; cases h
    · obtain ⟨o, h1, h2⟩ := z
      have c := A.ce l o h1
      have e' : g.io l = p := e
      rw [e'] at c
      have mm : g.M p := by
        cases o with
        | dead => exact absurd rfl h2
        | lst _ => exact c.1
        | dic _ _ => exact c.1
        | obj _ _ => exact c.1
      obtain ⟨u, h⟩ := A.wt p (A.mw p mm)
      rw [hp] at h; cases h
/-- a new tuple -/
theorem new_tup {g : Gh} {st : Stt} {Qd : D → Prop} {ds : List D} {vs : List V} (A : Abs K g st s H) (hq : ∀ d v g' H', Qd d → Ext g st.h.length H g' st.h.length H' → Abs K g' st s H' → RepM K g' st s H' false d v → Q v H') (q : Qd (.tup ds)) (r : Reps K g st.h.length H ds vs) {p : Addr} (hp : H p = none) :
    Q (.ref p) (upd H p (.tup vs)) := by
  obtain ⟨A', x⟩ := A.alloc hp (.tup vs)
  exact hq _ _ _ _ q x A' ⟨p, vs, rfl, .inl ⟨.inl upd_same, fun w => by obtain ⟨o, h⟩ := A.wt p w; rw [hp] at h; cases h⟩, r.kp (x.kp A.mw)⟩

/-! ### ints -/
theorem post_i2 {x y : V} {P : Int → Int → Prop} {f : Int → Int → D} {fv : Int → Int → V} (hop : ∀ ds Qd, opW o ds Qd → int2 ds fun i j => P i j ∧ Qd (f i j)) (hf : ∀ g n H i j, Rep K g n H (f i j) (fv i j)) (h : OpPost K s o false [x, y] H Q) :
    rI P fv x y H Q := by
  obtain ⟨g, st, ds, Qd, A, r, w, hq⟩ := h
  obtain ⟨i, j, rfl, p, q⟩ := int2_inv (hop _ _ w)
  obtain ⟨a, b, e, r1, r2⟩ := r.two
  cases e
  exact ⟨i, j, r1, r2, p, OpPost.plain A hq q (hf _ _ _ _ _)⟩
theorem post_i0 {x y : V} {f : Int → Int → D} {fv : Int → Int → V} (hop : ∀ ds Qd, opW o ds Qd → int2 ds fun i j => Qd (f i j)) (hf : ∀ g n H i j, Rep K g n H (f i j) (fv i j)) (h : OpPost K s o false [x, y] H Q) :
    rI0 fv x y H Q := by
  obtain ⟨g, st, ds, Qd, A, r, w, hq⟩ := h
  obtain ⟨i, j, rfl, q⟩ := int2_inv (hop _ _ w)
  obtain ⟨a, b, e, r1, r2⟩ := r.two
  cases e
  exact ⟨i, j, r1, r2, OpPost.plain A hq q (hf _ _ _ _ _)⟩
theorem Reps.rep {g : Gh} {n : Nat} {ds : List D} {vs : List V} (h : Reps K g n H ds vs) : ∀ k : Nat, Reps K g n H (List.replicate k ds).flatten (List.replicate k vs).flatten
  | 0 => rfl
  | k + 1 => by
    rw [List.replicate_succ, List.replicate_succ, List.flatten_cons, List.flatten_cons]
    exact h.append (Reps.rep h k)
/-- text * int -/
def rMulS : R2 := fun x y H Q => ∃ (z : Str) (k : Int), x = .str z ∧ y = .int k ∧ (0 ≤ k ∧ k ≤ 1000 ∧ z.length ≤ 1000) ∧ Q (.str (Txt.mul z k)) H
theorem post_mul {x y : V} (h : OpPost K s .mul false [x, y] H Q) : (rI CMul fun i j => .int (i * j)) x y H Q ∨ rRep x y H Q ∨ rMulS x y H Q := by
  obtain ⟨g, st, ds, Qd, A, r, w, hq⟩ := h
  have w' : mulW ds Qd := w
  unfold mulW at w'
  split at w'
  · rename_i i j
    obtain ⟨a, b, e, r1, r2⟩ := r.two
    cases e
    exact .inl ⟨i, j, r1, r2, w'.1, OpPost.plain A hq w'.2 rfl⟩
  · rename_i es k
    obtain ⟨a, b, e, r1, r2⟩ := r.two
    cases e
    obtain ⟨l, vs, e1, hs, r1⟩ := r1
    obtain ⟨⟨k0, k1, k2⟩, q⟩ := w'
    have hl := r1.length
    refine .inr (.inl ⟨l, k, vs, e1, r2, hs, by omega, by omega, ?_, fun p hp => new_lst A hq q (r1.rep _) hp⟩)
    rw [sizeLine_eq, hl]
    have : k.toNat ≤ 1000 := by omega
    exact Nat.le_trans (Nat.mul_le_mul k2 this) (by decide)
  · rename_i z k
    obtain ⟨a, b, e, r1, r2⟩ := r.two
    cases e
    exact .inr (.inr ⟨z, k, r1, r2, w'.1, OpPost.plain A hq w'.2 rfl⟩)
  · exact w'.elim
theorem post_neg {x : V} (h : OpPost K s .neg false [x] H Q) : rU (fun i => .int (-i)) x H Q := by
  obtain ⟨g, st, ds, Qd, A, r, w, hq⟩ := h
  obtain ⟨i, rfl, q⟩ := int1_inv (show int1 ds _ from w)
  obtain ⟨a, e, r1⟩ := r.one
  cases e
  exact ⟨i, r1, OpPost.plain A hq q rfl⟩

/-! ### == of data -/
mutual
def toP : D → PyData
  | .non => .none
  | .bl b => .bool b
  | .int i => .int i
  | .str x => .str x
  | .tup ds => .tuple (toPs ds)
  | .lst ds => .list (toPs ds)
  | .dic _ _ => .none
  | .obj _ _ => .none
  | .exc _ _ => .none
  | .cell _ => .none
  | .scr _ => .none
def toPs : List D → List PyData
  | [] => []
  | d :: ds => toP d :: toPs ds
end
mutual
theorem Rep.dp {g : Gh} {n : Nat} : ∀ {k : Nat} {d : D} {v : V}, flatD k d = true → Rep K g n H d v → Dp K H v (toP d)
  | _, .non, _, _, h => by cases h; exact .non
  | _, .bl b, _, _, h => by cases h; exact .bl b
  | _, .int i, _, _, h => by cases h; exact .int i
  | _, .str x, _, _, h => by cases h; exact .str x
  | k + 1, .tup ds, _, f, ⟨a, vs, e, h, r⟩ => by
    subst e
    exact .tup h.sq (Reps.dp (k := k) (by simpa only [flatD] using f) r)
  | k + 1, .lst ds, _, f, ⟨a, vs, e, h, r⟩ => by
    subst e
    exact .lst (SqL.of h.1) (Reps.dp (k := k) (by simpa only [flatD] using f) r)
  | 0, .tup ds, _, f, _ => by simp [flatD] at f
  | 0, .lst ds, _, f, _ => by simp [flatD] at f
  | _, .dic _ _, _, f, _ => by simp [flatD] at f
  | _, .cell _, _, f, _ => by simp [flatD] at f
  | _, .scr _, _, f, _ => by simp [flatD] at f
theorem Reps.dp {g : Gh} {n : Nat} : ∀ {k : Nat} {ds : List D} {vs : List V}, flatDs k ds = true → Reps K g n H ds vs → DpAll K H vs (toPs ds)
  | _, [], _, _, h => by cases h; exact .nil
  | k, d :: ds, _, f, ⟨v, r, e, h, t⟩ => by
    subst e
    have f' : flatD k d = true ∧ flatDs k ds = true := by simpa only [flatDs, Bool.and_eq_true] using f
    exact .cons (Rep.dp f'.1 h) (Reps.dp f'.2 t)
end
theorem Vw.dp {g : Gh} {n : Nat} {k : Nat} : ∀ {d : D} {v : V}, flatD k d = true → Vw K g n H d v → Dp K H v (toP d)
  | .non, _, f, h => Rep.dp (g := g) (n := n) (k := k) f h
  | .bl b, _, f, h => Rep.dp (g := g) (n := n) (k := k) f h
  | .int i, _, f, h => Rep.dp (g := g) (n := n) (k := k) f h
  | .str x, _, f, h => Rep.dp (g := g) (n := n) (k := k) f h
  | .tup ds, _, f, ⟨a, vs, e, h, r⟩ => by
    subst e
    cases k with
    | zero => simp [flatD] at f
    | succ k => exact .tup h.sq (Reps.dp (k := k) (by simpa only [flatD] using f) r)
  | .lst ds, _, f, ⟨a, vs, e, h, r⟩ => by
    subst e
    cases k with
    | zero => simp [flatD] at f
    | succ k => exact .lst (SqL.of h) (Reps.dp (k := k) (by simpa only [flatD] using f) r)
  | .dic _ _, _, f, _ => by simp [flatD] at f
  | .obj _ _, _, f, _ => by simp [flatD] at f
  | .exc _ _, _, f, _ => by simp [flatD] at f
  | .cell _, _, f, _ => by simp [flatD] at f
  | .scr _, _, f, _ => by simp [flatD] at f
mutual
theorem flat_lay : ∀ {k : Nat} {d : D}, flatD k d = true → (toP d).canLay0 = true ∧ (toP d).depth ≤ k
  | _, .non, _ => ⟨rfl, Nat.zero_le _⟩
  | _, .bl b, _ => ⟨rfl, Nat.zero_le _⟩
  | _, .int i, _ => ⟨rfl, Nat.zero_le _⟩
  | _, .str x, f => ⟨f, Nat.zero_le _⟩
  | k + 1, .tup ds, f => by
    obtain ⟨h1, h2⟩ := flat_lays (k := k) (ds := ds) (by simpa only [flatD] using f)
    exact ⟨h1, Nat.succ_le_succ h2⟩
  | k + 1, .lst ds, f => by
    obtain ⟨h1, h2⟩ := flat_lays (k := k) (ds := ds) (by simpa only [flatD] using f)
    exact ⟨h1, Nat.succ_le_succ h2⟩
  | 0, .tup ds, f => by simp [flatD] at f
  | 0, .lst ds, f => by simp [flatD] at f
  | _, .dic _ _, f => by simp [flatD] at f
  | _, .obj _ _, f => by simp [flatD] at f
  | _, .exc _ _, f => by simp [flatD] at f
  | _, .cell _, f => by simp [flatD] at f
  | _, .scr _, f => by simp [flatD] at f
theorem flat_lays : ∀ {k : Nat} {ds : List D}, flatDs k ds = true → PyData.canLayAll0 (toPs ds) = true ∧ PyData.depthAll (toPs ds) ≤ k
  | _, [], _ => ⟨rfl, Nat.zero_le _⟩
  | k, d :: ds, f => by
    have f' : flatD k d = true ∧ flatDs k ds = true := by simpa only [flatDs, Bool.and_eq_true] using f
    obtain ⟨h1, h2⟩ := flat_lay f'.1
    obtain ⟨h3, h4⟩ := flat_lays f'.2
    refine ⟨?_, ?_⟩
    · show ((toP d).canLay0 && PyData.canLayAll0 (toPs ds)) = true
      rw [h1, h3]
      rfl
    · show max (toP d).depth (PyData.depthAll (toPs ds)) ≤ k
      exact Nat.max_le.mpr ⟨h2, h4⟩
end
theorem flat_shaped {k : Nat} {d : D} (h : flatD k d = true) (hk : k ≤ 64) : SeqAt.shaped (toP d) = true := by
  obtain ⟨h1, h2⟩ := flat_lay h
  unfold SeqAt.shaped
  rw [h1, decide_eq_true (Nat.le_trans h2 hk)]
  rfl
end
mutual
theorem eqv_eqD : ∀ {k : Nat} {a b : D}, flatD k a = true → flatD k b = true → PyData.eqv (toP a) (toP b) = eqD a b
  | _, .non, b, _, f => by cases b <;> first | rfl | (simp [flatD] at f)
  | _, .bl _, b, _, f => by cases b <;> first | rfl | (simp [flatD] at f)
  | _, .int _, b, _, f => by cases b <;> first | rfl | (simp [flatD] at f)
  | _, .str _, b, _, f => by cases b <;> first | rfl | (simp [flatD] at f)
  | k + 1, .tup as, b, fa, f => by
    cases b with
    | tup bs => exact eqv_eqDs (k := k) (by simpa only [flatD] using fa) (by simpa only [flatD] using f)
    | _ => first | rfl | (simp [flatD] at f)
  | k + 1, .lst as, b, fa, f => by
    cases b with
    | lst bs => exact eqv_eqDs (k := k) (by simpa only [flatD] using fa) (by simpa only [flatD] using f)
    | _ => first | rfl | (simp [flatD] at f)
  | 0, .tup ds, _, f, _ => by simp [flatD] at f
  | 0, .lst ds, _, f, _ => by simp [flatD] at f
  | _, .dic _ _, _, f, _ => by simp [flatD] at f
  | _, .obj _ _, _, f, _ => by simp [flatD] at f
  | _, .exc _ _, _, f, _ => by simp [flatD] at f
  | _, .cell _, _, f, _ => by simp [flatD] at f
  | _, .scr _, _, f, _ => by simp [flatD] at f
theorem eqv_eqDs : ∀ {k : Nat} {as bs : List D}, flatDs k as = true → flatDs k bs = true → PyData.eqvAll (toPs as) (toPs bs) = eqDs as bs
  | _, [], [], _, _ => rfl
  | _, [], _ :: _, _, _ => rfl
  | _, _ :: _, [], _, _ => rfl
  | k, a :: as, b :: bs, fa, fb => by
    have f1 : flatD k a = true ∧ flatDs k as = true := by simpa only [flatDs, Bool.and_eq_true] using fa
    have f2 : flatD k b = true ∧ flatDs k bs = true := by simpa only [flatDs, Bool.and_eq_true] using fb
    show (PyData.eqv (toP a) (toP b) && PyData.eqvAll (toPs as) (toPs bs)) = (eqD a b && eqDs as bs)
    rw [eqv_eqD f1.1 f2.1, eqv_eqDs f1.2 f2.2]
end
section
variable {K : Kc} {s : L2.St} {H : Hp} {Q : VK} {m : Bool}
theorem scal_vw {g : Gh} {n : Nat} : ∀ {a : D} {v : V}, scalD a = true → Vw K g n H a v → Dp K H v (toP a)
  | .non, _, _, h => by cases (show _ = V.non from h); exact .non
  | .bl b, _, _, h => by cases (show _ = V.bl b from h); exact .bl b
  | .int i, _, _, h => by cases (show _ = V.int i from h); exact .int i
  | .str x, _, _, h => by cases (show _ = V.str x from h); exact .str x
/-- two plain values: scal's way, or the way of data -/
theorem scal_eq {g : Gh} {n : Nat} {a b : D} {x y : V} (ha : scalD a = true) (hb : scalD b = true) (h1 : Vw K g n H a x) (h2 : Vw K g n H b y) :
    (scal x y = true ∧ decide (x = y) = eqD a b) ∨ (flatD 50 a = true ∧ flatD 50 b = true) := by
  cases a with
  | non =>
    cases (show x = V.non from h1)
    cases b with
    | non => cases (show y = V.non from h2); exact .inl ⟨rfl, rfl⟩
    | bl k => cases (show y = V.bl k from h2); exact .inl ⟨rfl, rfl⟩
    | int k => cases (show y = V.int k from h2); exact .inl ⟨rfl, rfl⟩
    | str k => cases (show y = V.str k from h2); exact .inl ⟨rfl, rfl⟩
    | _ => cases hb
  | bl i =>
    cases (show x = V.bl i from h1)
    cases b with
    | non => cases (show y = V.non from h2); exact .inl ⟨rfl, rfl⟩
    | bl k => cases (show y = V.bl k from h2); exact .inl ⟨rfl, by rw [dec_bl]; rfl⟩
    | int k => exact .inr ⟨rfl, rfl⟩
    | str k => cases (show y = V.str k from h2); exact .inl ⟨rfl, rfl⟩
    | _ => cases hb
  | int i =>
    cases (show x = V.int i from h1)
    cases b with
    | non => cases (show y = V.non from h2); exact .inl ⟨rfl, rfl⟩
    | bl k => exact .inr ⟨rfl, rfl⟩
    | int k => cases (show y = V.int k from h2); exact .inl ⟨rfl, by rw [dec_int]; rfl⟩
    | str k => cases (show y = V.str k from h2); exact .inl ⟨rfl, rfl⟩
    | _ => cases hb
  | str i =>
    cases (show x = V.str i from h1)
    cases b with
    | non => cases (show y = V.non from h2); exact .inl ⟨rfl, rfl⟩
    | bl k => cases (show y = V.bl k from h2); exact .inl ⟨rfl, rfl⟩
    | int k => cases (show y = V.int k from h2); exact .inl ⟨rfl, rfl⟩
    | str k =>
      cases (show y = V.str k from h2)
      refine .inl ⟨rfl, ?_⟩
      show decide (V.str i = V.str k) = decide (i = k)
      by_cases e : i = k
      · subst e; rw [decide_eq_true rfl, decide_eq_true rfl]
      · rw [decide_eq_false e, decide_eq_false (fun z => e (V.str.inj z))]
    | _ => cases hb
  | _ => cases ha
theorem post_eq {x y : V} (h : OpPost K s .eq false [x, y] H Q) : rEq x y H Q ∨ rEqD K x y H Q := by
  obtain ⟨g, st, ds, Qd, A, r, w, hq⟩ := h
  obtain ⟨a, b, rfl, ok, q⟩ := any2_inv (show any2 ds _ from w)
  obtain ⟨a', b', e, r1, r2⟩ := r.two
  cases e
  have fin : flatD 50 a = true → flatD 50 b = true → rEqD K x y H Q := fun f1 f2 =>
    ⟨_, _, r1.dp f1, r2.dp f2, flat_shaped f1 (by decide), flat_shaped f2 (by decide), by rw [eqv_eqD f1 f2]; exact OpPost.plain A hq q rfl⟩
  unfold eqOk at ok
  rcases Bool.or_eq_true_iff.mp ok with z | z
  · obtain ⟨z1, z2⟩ := Bool.and_eq_true_iff.mp z
    rcases scal_eq z1 z2 r1 r2 with ⟨e1, e2⟩ | ⟨f1, f2⟩
    · exact .inl ⟨e1, by rw [e2]; exact OpPost.plain A hq q rfl⟩
    · exact .inr (fin f1 f2)
  · obtain ⟨z1, z2⟩ := Bool.and_eq_true_iff.mp z
    exact .inr (fin z1 z2)
theorem post_ne {x y : V} (h : OpPost K s .ne false [x, y] H Q) : rNe x y H Q ∨ rNeD K x y H Q := by
  obtain ⟨g, st, ds, Qd, A, r, w, hq⟩ := h
  obtain ⟨a, b, rfl, ok, q⟩ := any2_inv (show any2 ds _ from w)
  obtain ⟨a', b', e, r1, r2⟩ := r.two
  cases e
  have fin : flatD 50 a = true → flatD 50 b = true → rNeD K x y H Q := fun f1 f2 =>
    ⟨_, _, r1.dp f1, r2.dp f2, flat_shaped f1 (by decide), flat_shaped f2 (by decide), by rw [eqv_eqD f1 f2]; exact OpPost.plain A hq q rfl⟩
  unfold eqOk at ok
  rcases Bool.or_eq_true_iff.mp ok with z | z
  · obtain ⟨z1, z2⟩ := Bool.and_eq_true_iff.mp z
    rcases scal_eq z1 z2 r1 r2 with ⟨e1, e2⟩ | ⟨f1, f2⟩
    · exact .inl ⟨e1, by rw [e2]; exact OpPost.plain A hq q rfl⟩
    · exact .inr (fin f1 f2)
  · obtain ⟨z1, z2⟩ := Bool.and_eq_true_iff.mp z
    exact .inr (fin z1 z2)
end
end Mp
namespace Mp
open PySem PySem.Spec L2
section
variable {K : Kc} {s : L2.St} {H : Hp} {Q : VK} {m : Bool}
theorem any_eqv {k : Nat} {a : D} (ha : flatD k a = true) : ∀ {es : List D}, flatDs k es = true → ((toPs es).any fun z => PyData.eqv z (toP a)) = es.any fun z => eqD z a
  | [], _ => rfl
  | e :: es, f => by
    have f1 : flatD k e = true ∧ flatDs k es = true := by simpa only [flatDs, Bool.and_eq_true] using f
    show ((PyData.eqv (toP e) (toP a)) || (toPs es).any fun z => PyData.eqv z (toP a)) = (eqD e a || es.any fun z => eqD z a)
    rw [eqv_eqD f1.1 ha, any_eqv ha f1.2]
/-- in, of tuples -/
def rInTD (K : PySem.W.Frag) : R2 := fun x y H Q => ∃ d ds, Dp K H x d ∧ Dp K H y (.tuple ds) ∧ SeqAt.shaped d = true ∧ SeqAt.shaped (.tuple ds) = true ∧ Q (.bl (ds.any fun z => PyData.eqv z d)) H
def rNotInTD (K : PySem.W.Frag) : R2 := fun x y H Q => ∃ d ds, Dp K H x d ∧ Dp K H y (.tuple ds) ∧ SeqAt.shaped d = true ∧ SeqAt.shaped (.tuple ds) = true ∧ Q (.bl (!ds.any fun z => PyData.eqv z d)) H
theorem op_inTD {X : Cx} (hu : X.A.units + 65 < cLine) : OpR X (compareOp .In) (rInTD X.K) := by
  intro pins s σ H x y v u Q I rx ry h
  obtain ⟨d, ds, hd, he, sd, se, q⟩ := h
  obtain ⟨as, r1⟩ := Dp.reads I d x v hd rx
  obtain ⟨bs, r2⟩ := Dp.reads I (.tuple ds) y u he ry
  exact SeqAt.in_tuple_reads r2 r1 (SeqAt.canLay_of_shaped se) (SeqAt.canLay_of_shaped sd) (PyProof.Rows.room_in_shaped sd hu) ⟨.bl _, H, I, rfl, q⟩
theorem op_notInTD {X : Cx} (hu : X.A.units + 65 < cLine) : OpR X (compareOp .NotIn) (rNotInTD X.K) := by
  intro pins s σ H x y v u Q I rx ry h
  obtain ⟨d, ds, hd, he, sd, se, q⟩ := h
  obtain ⟨as, r1⟩ := Dp.reads I d x v hd rx
  obtain ⟨bs, r2⟩ := Dp.reads I (.tuple ds) y u he ry
  exact SeqAt.notIn_tuple_reads r2 r1 (SeqAt.canLay_of_shaped se) (SeqAt.canLay_of_shaped sd) (PyProof.Rows.room_in_shaped sd hu) ⟨.bl _, H, I, rfl, q⟩
abbrev rInS : R2 := fun x y H Q => ∃ i j, x = .str i ∧ y = .str j ∧ Q (.bl (!(Builtin.Str.occurrences j i 0 j.length 1).isEmpty)) H
abbrev rNotInS : R2 := fun x y H Q => ∃ i j, x = .str i ∧ y = .str j ∧ Q (.bl (!(!(Builtin.Str.occurrences j i 0 j.length 1).isEmpty))) H
theorem post_in {x y : V} (h : OpPost K s .in_ false [x, y] H Q) : rInD K x y H Q ∨ rInTD K x y H Q ∨ rInS x y H Q := by
  obtain ⟨g, st, ds, Qd, A, r, w, hq⟩ := h
  have w' : inW false ds Qd := w
  unfold inW at w'
  split at w'
  · rename_i a es
    obtain ⟨a', b', e, r1, r2⟩ := r.two
    cases e
    obtain ⟨⟨f1, f2⟩, q⟩ := w'
    have f3 : flatD 51 (.lst es) = true := f2
    refine .inl ⟨_, toPs es, r1.dp f1, r2.dp f3, flat_shaped f1 (by decide), flat_shaped f3 (by decide), ?_⟩
    rw [any_eqv f1 f2]
    exact OpPost.plain A hq q rfl
  · rename_i a es
    obtain ⟨a', b', e, r1, r2⟩ := r.two
    cases e
    obtain ⟨⟨f1, f2⟩, q⟩ := w'
    have f3 : flatD 51 (.tup es) = true := f2
    refine .inr (.inl ⟨_, toPs es, r1.dp f1, r2.dp f3, flat_shaped f1 (by decide), flat_shaped f3 (by decide), ?_⟩)
    rw [any_eqv f1 f2]
    exact OpPost.plain A hq q rfl
  · rename_i z u
    obtain ⟨a', b', e, r1, r2⟩ := r.two
    cases e
    exact .inr (.inr ⟨z, u, r1, r2, OpPost.plain A hq w' rfl⟩)
  · exact w'.elim
theorem post_notIn {x y : V} (h : OpPost K s .notIn false [x, y] H Q) : rNotInD K x y H Q ∨ rNotInTD K x y H Q ∨ rNotInS x y H Q := by
  obtain ⟨g, st, ds, Qd, A, r, w, hq⟩ := h
  have w' : inW true ds Qd := w
  unfold inW at w'
  split at w'
  · rename_i a es
    obtain ⟨a', b', e, r1, r2⟩ := r.two
    cases e
    obtain ⟨⟨f1, f2⟩, q⟩ := w'
    have f3 : flatD 51 (.lst es) = true := f2
    refine .inl ⟨_, toPs es, r1.dp f1, r2.dp f3, flat_shaped f1 (by decide), flat_shaped f3 (by decide), ?_⟩
    rw [any_eqv f1 f2]
    exact OpPost.plain A hq q rfl
  · rename_i a es
    obtain ⟨a', b', e, r1, r2⟩ := r.two
    cases e
    obtain ⟨⟨f1, f2⟩, q⟩ := w'
    have f3 : flatD 51 (.tup es) = true := f2
    refine .inr (.inl ⟨_, toPs es, r1.dp f1, r2.dp f3, flat_shaped f1 (by decide), flat_shaped f3 (by decide), ?_⟩)
    rw [any_eqv f1 f2]
    exact OpPost.plain A hq q rfl
  · rename_i z u
    obtain ⟨a', b', e, r1, r2⟩ := r.two
    cases e
    exact .inr (.inr ⟨z, u, r1, r2, OpPost.plain A hq w' rfl⟩)
  · exact w'.elim
abbrev rAddS : R2 := fun x y H Q => ∃ i j, x = .str i ∧ y = .str j ∧ i.length + j.length ≤ sizeLine ∧ Q (.str (i ++ j)) H
/-- + of lists, one of them may be a new one -/
theorem post_add {x y : V} (h : OpPost K s .add m [x, y] H Q) (hm : m = false) : (rI0 fun i j => .int (i + j)) x y H Q ∨ rAddS x y H Q ∨ rCat x y H Q ∨ rCatA K x y H Q := by
  subst hm
  obtain ⟨g, st, ds, Qd, A, r, w, hq⟩ := h
  have w' : addW ds Qd := w
  unfold addW at w'
  split at w'
  · obtain ⟨a', b', e, r1, r2⟩ := r.two
    cases e
    exact .inl ⟨_, _, r1, r2, OpPost.plain A hq w' rfl⟩
  · obtain ⟨a', b', e, r1, r2⟩ := r.two
    cases e
    exact .inr (.inl ⟨_, _, r1, r2, w'.1, OpPost.plain A hq w'.2 rfl⟩)
  · obtain ⟨a', b', e, r1, r2⟩ := r.two
    cases e
    obtain ⟨l, vs, e1, h1, q1⟩ := r1
    obtain ⟨b, ws, e2, h2, q2⟩ := r2
    exact .inr (.inr (.inl ⟨l, b, vs, ws, e1, e2, h1, h2, by rw [q1.length, q2.length]; exact w'.1, fun p hp => new_lst A hq w'.2 (q1.append q2) hp⟩))
  · rename_i es fs
    obtain ⟨a', b', e, r1, r2⟩ := r.two
    cases e
    obtain ⟨hl, q⟩ := w'
    have s1 := r1
    have s2 := r2
    obtain ⟨l, vs, e1, h1, q1⟩ := r1
    obtain ⟨b, ws, e2, h2, q2⟩ := r2
    refine .inr (.inr (.inr ⟨l, b, vs, ws, e1, e2, h1.sq, h2.sq, by rw [q1.length, q2.length]; exact hl, fun z => ?_, fun _ z => ?_, fun _ _ p hp => new_tup A hq q (q1.append q2) hp⟩))
    · subst z
      have e0 : es = [] := List.eq_nil_of_length_eq_zero (by rw [← q1.length]; rfl)
      subst e0
      rw [← e2]
      exact OpPost.plain A hq q s2
    · subst z
      have e0 : fs = [] := List.eq_nil_of_length_eq_zero (by rw [← q2.length]; rfl)
      subst e0
      rw [List.append_nil] at q
      rw [← e1]
      exact OpPost.plain A hq q s1
  · exact w'.elim
theorem post_len {vs : List V} (h : OpPost K s .len false vs H Q) : ∃ x n, vs = [x] ∧ LenV K x H n ∧ Q (.int n) H := by
  obtain ⟨g, st, ds, Qd, A, r, w, hq⟩ := h
  obtain ⟨a, rfl, w2⟩ := any1_inv (show any1 ds _ from w)
  obtain ⟨x, rfl, r1⟩ := r.to1
  unfold lenW at w2
  split at w2
  · obtain ⟨l, vs, e1, hs, r1⟩ := r1
    subst e1
    exact ⟨_, _, rfl, .inl ⟨vs, SqL.of hs, rfl⟩, OpPost.plain A hq w2 (by rw [r1.length]; rfl)⟩
  · obtain ⟨l, vs, e1, hs, r1⟩ := r1
    subst e1
    exact ⟨_, _, rfl, .inl ⟨vs, hs.sq, rfl⟩, OpPost.plain A hq w2 (by rw [r1.length]; rfl)⟩
  · obtain ⟨l, vs, e1, hs, r1⟩ := r1
    subst e1
    exact ⟨_, _, rfl, .inr ⟨vs, hs.sq, rfl⟩, OpPost.plain A hq w2 (by rw [r1.length]; rfl)⟩
  · rename_i z
    have e : x = .str z := r1
    subst e
    exact ⟨_, _, rfl, ⟨w2.1, rfl⟩, OpPost.plain A hq w2.2 rfl⟩
  · exact w2.elim
theorem post_abs {vs : List V} (h : OpPost K s .abs false vs H Q) : ∃ i, vs = [.int i] ∧ Q (.int (if i < 0 then -i else i)) H := by
  obtain ⟨g, st, ds, Qd, A, r, w, hq⟩ := h
  obtain ⟨i, rfl, w⟩ := int1_inv (show int1 ds _ from w)
  obtain ⟨x, rfl, r1⟩ := r.to1
  have e : x = .int i := r1
  subst e
  exact ⟨i, rfl, OpPost.plain A hq w rfl⟩
theorem post_max2 {vs : List V} (h : OpPost K s .max2 false vs H Q) : ∃ i j, vs = [.int i, .int j] ∧ Q (.int (if j > i then j else i)) H := by
  obtain ⟨g, st, ds, Qd, A, r, w, hq⟩ := h
  obtain ⟨i, j, rfl, w⟩ := int2_inv (show int2 ds _ from w)
  obtain ⟨x, y, rfl, r1, r2⟩ := r.to2
  have e : x = .int i := r1
  have e2 : y = .int j := r2
  subst e e2
  exact ⟨i, j, rfl, OpPost.plain A hq w rfl⟩
theorem post_min2 {vs : List V} (h : OpPost K s .min2 false vs H Q) : ∃ i j, vs = [.int i, .int j] ∧ Q (.int (if j < i then j else i)) H := by
  obtain ⟨g, st, ds, Qd, A, r, w, hq⟩ := h
  obtain ⟨i, j, rfl, w⟩ := int2_inv (show int2 ds _ from w)
  obtain ⟨x, y, rfl, r1, r2⟩ := r.to2
  have e : x = .int i := r1
  have e2 : y = .int j := r2
  subst e e2
  exact ⟨i, j, rfl, OpPost.plain A hq w rfl⟩
theorem post_toInt {vs : List V} (h : OpPost K s .toInt false vs H Q) : (∃ i, vs = [.int i] ∧ Q (.int i) H) ∨ ∃ k, vs = [.bl k] ∧ Q (.int (if k then 1 else 0)) H := by
  obtain ⟨g, st, ds, Qd, A, r, w, hq⟩ := h
  obtain ⟨a, rfl, w2⟩ := any1_inv (show any1 ds _ from w)
  obtain ⟨x, rfl, r1⟩ := r.to1
  unfold toIntW at w2
  split at w2
  · rename_i i
    have e : x = .int i := r1
    subst e
    exact .inl ⟨i, rfl, OpPost.plain A hq w2 rfl⟩
  · rename_i k
    have e : x = .bl k := r1
    subst e
    exact .inr ⟨k, rfl, OpPost.plain A hq w2 rfl⟩
  · exact w2.elim
theorem post_toStr {vs : List V} (h : OpPost K s .toStr false vs H Q) : ∃ i, vs = [.int i] ∧ i.natAbs.log2 < 1920 ∧ Q (.str (toString i)) H := by
  obtain ⟨g, st, ds, Qd, A, r, w, hq⟩ := h
  obtain ⟨i, rfl, c, w⟩ := int1_inv (show int1 ds _ from w)
  obtain ⟨x, rfl, r1⟩ := r.to1
  have e : x = .int i := r1
  subst e
  exact ⟨i, rfl, c, OpPost.plain A hq w rfl⟩
theorem post_repr {vs : List V} (h : OpPost K s .repr false vs H Q) : (∃ b, vs = [.bl b] ∧ Q (.str (if b then "True" else "False")) H) ∨ (vs = [.non] ∧ Q (.str "None") H) := by
  obtain ⟨g, st, ds, Qd, A, r, w, hq⟩ := h
  obtain ⟨a, rfl, z, ez, w⟩ := any1_inv (show any1 ds _ from w)
  obtain ⟨x, rfl, r1⟩ := r.to1
  cases a with
  | bl b =>
    cases ez
    have e : x = .bl b := r1
    subst e
    exact .inl ⟨b, rfl, OpPost.plain A hq w rfl⟩
  | non =>
    cases ez
    have e : x = .non := r1
    subst e
    exact .inr ⟨rfl, OpPost.plain A hq w rfl⟩
  | _ => cases ez
/-- the items of a list or tuple that is looked at -/
theorem Vw.seq {g : Gh} {n : Nat} {a : D} {x : V} {es : List D} (r : Vw K g n H a x) (e : seqD a = some es) : ∃ p vs, x = .ref p ∧ (SqL K H p vs ∨ SqT K H p vs) ∧ Reps K g n H es vs := by
  cases a with
  | lst ds => cases e; obtain ⟨p, vs, e1, hs, r1⟩ := r; exact ⟨p, vs, e1, .inl (SqL.of hs), r1⟩
  | tup ds => cases e; obtain ⟨p, vs, e1, hs, r1⟩ := r; exact ⟨p, vs, e1, .inr hs.sq, r1⟩
  | scr ds => cases e; obtain ⟨p, vs, e1, hs, r1⟩ := r; exact ⟨p, vs, e1, .inl hs.sq, r1⟩
  | _ => cases e
theorem Reps.chars {g : Gh} {n : Nat} (cs : List Nat) : Reps K g n H (cs.map fun c => D.str ⟨#[c]⟩) (cs.map fun c => V.str ⟨#[c]⟩) := by
  induction cs with
  | nil => rfl
  | cons c cs ih => exact ⟨_, _, rfl, rfl, ih⟩
theorem post_toList {vs : List V} (h : OpPost K s .toList m vs H Q) : (∃ p ys, vs = [.ref p] ∧ (SqL K H p ys ∨ SqT K H p ys) ∧ ∀ l, H l = none → Q (.ref l) (upd H l (.lst ys))) ∨
    ∃ z : Str, vs = [.str z] ∧ z.length ≤ sizeLine ∧ ∀ l, H l = none → Q (.ref l) (upd H l (.lst (z.cps.toList.map fun c => V.str ⟨#[c]⟩))) := by
  obtain ⟨g, st, ds, Qd, A, r, w, hq⟩ := h
  obtain ⟨a, rfl, w2⟩ := any1_inv (show any1 ds _ from w)
  obtain ⟨x, rfl, r1⟩ := r.to1
  clear w
  have w := w2
  unfold toListW at w
  split at w
  · rename_i z
    have e : x = .str z := r1
    subst e
    exact .inr ⟨z, rfl, w.1, fun l hl => new_lst A hq w.2 (Reps.chars _) hl⟩
  · obtain ⟨es, ez, w⟩ := w
    obtain ⟨p, ys, rfl, hs, r2⟩ := r1.seq ez
    exact .inl ⟨p, ys, rfl, hs, fun l hl => new_lst A hq w r2 hl⟩
theorem post_toTuple {vs : List V} (h : OpPost K s .toTuple false vs H Q) : ∃ p ys, vs = [.ref p] ∧ ((SqL K H p ys ∧ ∀ l, H l = none → Q (.ref l) (upd H l (.tup ys))) ∨ (SqT K H p ys ∧ Q (.ref p) H)) := by
  obtain ⟨g, st, ds, Qd, A, r, w, hq⟩ := h
  obtain ⟨a, rfl, es, ez, w2⟩ := any1_inv (show any1 ds _ from w)
  obtain ⟨x, rfl, r1⟩ := r.to1
  clear w
  have w := w2
  cases a with
  | lst ds => cases ez; obtain ⟨p, vs, e1, hs, r1⟩ := r1; subst e1; exact ⟨p, vs, rfl, .inl ⟨SqL.of hs, fun l hl => new_tup A hq w r1 hl⟩⟩
  | tup ds => cases ez; have r2 := r1; obtain ⟨p, vs, e1, hs, r1⟩ := r1; subst e1; exact ⟨p, vs, rfl, .inr ⟨hs.sq, OpPost.plain A hq w r2⟩⟩
  | scr ds => cases ez; obtain ⟨p, vs, e1, hs, r1⟩ := r1; subst e1; exact ⟨p, vs, rfl, .inl ⟨hs.sq, fun l hl => new_tup A hq w r1 hl⟩⟩
  | _ => cases ez
theorem atI_rep {g : Gh} {n : Nat} {es : List D} {vs : List V} {i : Int} {d : D} (r : Reps K g n H es vs) (h : atI es i = some d) : ∃ v, atI vs i = some v ∧ Rep K g n H d v := by
  unfold atI at h ⊢
  rw [r.length]
  cases q : ixN es.length i with
  | none => rw [q] at h; cases h
  | some j =>
    rw [q] at h
    obtain ⟨v, e, r'⟩ := r.get h
    exact ⟨v, e, r'⟩
theorem post_item {x y : V} (h : OpPost K s .item false [x, y] H Q) : rIx K x y H Q := by
  obtain ⟨g, st, ds, Qd, A, r, w, hq⟩ := h
  have w' : itemW ds Qd := w
  unfold itemW at w'
  split at w'
  · rename_i z i
    obtain ⟨a', b', e, r1, r2⟩ := r.two
    cases e
    obtain ⟨c, hl, ha, q⟩ := w'
    exact .inr (.inr ⟨z, i, c, r1, r2, hl, ha, OpPost.plain A hq q rfl⟩)
  · rename_i a i _
    obtain ⟨a', b', e, r1, r2⟩ := r.two
    cases e
    obtain ⟨es, d, ez, ha, q⟩ := w'
    obtain ⟨p, vs, rfl, hs, r3⟩ := r1.seq ez
    obtain ⟨v, hv, rv⟩ := atI_rep r3 ha
    rcases hs with hs | hs
    · exact .inl ⟨p, vs, i, v, rfl, r2, hs, hv, OpPost.plain A hq q rv⟩
    · exact .inr (.inl ⟨p, vs, i, v, rfl, r2, hs, hv, OpPost.plain A hq q rv⟩)
  · exact w'.elim
/-! ### isinstance -/
def tyName : Ty → String
  | .int => "int" | .bool => "bool" | .str => "str" | .list => "list" | .tuple => "tuple" | .dict => "dict" | .own _ => ""
def isOwn : Ty → Bool
  | .own _ => true
  | _ => false
def dTy : D → String
  | .non => "NoneType" | .bl _ => "bool" | .int _ => "int" | .str _ => "str" | .tup _ => "tuple" | .lst _ => "list" | .dic _ _ => "dict" | _ => ""
theorem kit_all : ∀ (a : D) (t : Ty), tyOk a = true → (∀ c ds, a ≠ .obj c ds) → isOwn t = false → kitB (dTy a) (tyName t) = some (tyD a t)
  | .non, .int, _, _, _ => (by decide +kernel : kitB "NoneType" "int" = some false)
  | .non, .bool, _, _, _ => (by decide +kernel : kitB "NoneType" "bool" = some false)
  | .non, .str, _, _, _ => (by decide +kernel : kitB "NoneType" "str" = some false)
  | .non, .list, _, _, _ => (by decide +kernel : kitB "NoneType" "list" = some false)
  | .non, .tuple, _, _, _ => (by decide +kernel : kitB "NoneType" "tuple" = some false)
  | .non, .dict, _, _, _ => (by decide +kernel : kitB "NoneType" "dict" = some false)
  | .bl _, .int, _, _, _ => (by decide +kernel : kitB "bool" "int" = some true)
  | .bl _, .bool, _, _, _ => (by decide +kernel : kitB "bool" "bool" = some true)
  | .bl _, .str, _, _, _ => (by decide +kernel : kitB "bool" "str" = some false)
  | .bl _, .list, _, _, _ => (by decide +kernel : kitB "bool" "list" = some false)
  | .bl _, .tuple, _, _, _ => (by decide +kernel : kitB "bool" "tuple" = some false)
  | .bl _, .dict, _, _, _ => (by decide +kernel : kitB "bool" "dict" = some false)
  | .int _, .int, _, _, _ => (by decide +kernel : kitB "int" "int" = some true)
  | .int _, .bool, _, _, _ => (by decide +kernel : kitB "int" "bool" = some false)
  | .int _, .str, _, _, _ => (by decide +kernel : kitB "int" "str" = some false)
  | .int _, .list, _, _, _ => (by decide +kernel : kitB "int" "list" = some false)
  | .int _, .tuple, _, _, _ => (by decide +kernel : kitB "int" "tuple" = some false)
  | .int _, .dict, _, _, _ => (by decide +kernel : kitB "int" "dict" = some false)
  | .str _, .int, _, _, _ => (by decide +kernel : kitB "str" "int" = some false)
  | .str _, .bool, _, _, _ => (by decide +kernel : kitB "str" "bool" = some false)
  | .str _, .str, _, _, _ => (by decide +kernel : kitB "str" "str" = some true)
  | .str _, .list, _, _, _ => (by decide +kernel : kitB "str" "list" = some false)
  | .str _, .tuple, _, _, _ => (by decide +kernel : kitB "str" "tuple" = some false)
  | .str _, .dict, _, _, _ => (by decide +kernel : kitB "str" "dict" = some false)
  | .tup _, .int, _, _, _ => (by decide +kernel : kitB "tuple" "int" = some false)
  | .tup _, .bool, _, _, _ => (by decide +kernel : kitB "tuple" "bool" = some false)
  | .tup _, .str, _, _, _ => (by decide +kernel : kitB "tuple" "str" = some false)
  | .tup _, .list, _, _, _ => (by decide +kernel : kitB "tuple" "list" = some false)
  | .tup _, .tuple, _, _, _ => (by decide +kernel : kitB "tuple" "tuple" = some true)
  | .tup _, .dict, _, _, _ => (by decide +kernel : kitB "tuple" "dict" = some false)
  | .lst _, .int, _, _, _ => (by decide +kernel : kitB "list" "int" = some false)
  | .lst _, .bool, _, _, _ => (by decide +kernel : kitB "list" "bool" = some false)
  | .lst _, .str, _, _, _ => (by decide +kernel : kitB "list" "str" = some false)
  | .lst _, .list, _, _, _ => (by decide +kernel : kitB "list" "list" = some true)
  | .lst _, .tuple, _, _, _ => (by decide +kernel : kitB "list" "tuple" = some false)
  | .lst _, .dict, _, _, _ => (by decide +kernel : kitB "list" "dict" = some false)
  | .dic _ _, .int, _, _, _ => (by decide +kernel : kitB "dict" "int" = some false)
  | .dic _ _, .bool, _, _, _ => (by decide +kernel : kitB "dict" "bool" = some false)
  | .dic _ _, .str, _, _, _ => (by decide +kernel : kitB "dict" "str" = some false)
  | .dic _ _, .list, _, _, _ => (by decide +kernel : kitB "dict" "list" = some false)
  | .dic _ _, .tuple, _, _, _ => (by decide +kernel : kitB "dict" "tuple" = some false)
  | .dic _ _, .dict, _, _, _ => (by decide +kernel : kitB "dict" "dict" = some true)
  | .obj c ds, _, _, h, _ => absurd rfl (h c ds)
/-- a class of the package, its attributes: what reading and storing lean on -/
def clsB (K : PySem.W.Frag) (C : Addr) : Bool := PySem.W.plainGet K C Str.empty && PySem.W.hasDictIn K C && PySem.W.plainOver K C && He.eqO (PySem.W.findIn K (.ref C) "__setattr__") (some (some (.builtin "object.__setattr__"))) &&
  He.eqO (PySem.W.findIn K (.ref C) "__class__") (some (some (.builtin "object.__class__"))) && He.eqO (PySem.W.specialIn K (.builtin "object.__class__") "__get__") (some (some (.builtin "getset_descriptor.__get__"))) &&
  decide (PySem.W.takesIn K (.builtin "object.__class__") = some true) && decide (PySem.W.mroIn K C (.type "object") = some true)
theorem clsB_ok {K : PySem.W.Frag} {C : Addr} (h : clsB K C = true) : Cls K C ∧ PySem.W.findIn K (.ref C) "__class__" = some (some (.builtin "object.__class__")) ∧ PySem.W.specialIn K (.builtin "object.__class__") "__get__" = some (some (.builtin "getset_descriptor.__get__")) ∧
    PySem.W.takesIn K (.builtin "object.__class__") = some true ∧ PySem.W.mroIn K C (.type "object") = some true := by
  unfold clsB at h
  simp only [Bool.and_eq_true, decide_eq_true_eq] at h
  obtain ⟨⟨⟨⟨⟨⟨⟨h1, h2⟩, h3⟩, h4⟩, h5⟩, h6⟩, h7⟩, h8⟩ := h
  exact ⟨⟨h1, h2, h3, He.eqO_ok h4⟩, He.eqO_ok h5, He.eqO_ok h6, h7, h8⟩
/-- what isinstance says of the package's classes -/
def KitB (K : PySem.W.Frag) : Bool := (List.range clsTab.length).all fun c => !isKnown K c ||
  (clsB K (He.ga K (clsN c)) && (fldsOf c).all (fun f => He.eqO (PySem.W.findIn K (.ref (He.ga K (clsN c))) f) (some none)) && ["int", "bool", "str", "list", "tuple", "dict"].all (fun t => decide (PySem.W.kitOne K (.ref (He.ga K (clsN c))) (.type t) = some false)) &&
   ["NoneType", "bool", "int", "str", "tuple", "list", "dict"].all (fun t => decide (PySem.W.kitOne K (.type t) (.ref (He.ga K (clsN c))) = some false)) &&
   (List.range clsTab.length).all (fun d => !isKnown K d || decide (PySem.W.kitOne K (.ref (He.ga K (clsN c))) (.ref (He.ga K (clsN d))) = some (c == d))))
theorem known_lt {K : PySem.W.Frag} {c : Nat} (h : isKnown K c = true) : c < clsTab.length := by
  unfold isKnown at h
  simp only [Bool.and_eq_true, decide_eq_true_eq] at h
  exact h.1
theorem KitB.at {K : PySem.W.Frag} {c : Nat} (k : KitB K = true) (hc : isKnown K c = true) : clsB K (He.ga K (clsN c)) = true ∧ (∀ f ∈ fldsOf c, NoAttr K (He.ga K (clsN c)) f) ∧
    (∀ t ∈ ["int", "bool", "str", "list", "tuple", "dict"], PySem.W.kitOne K (.ref (He.ga K (clsN c))) (.type t) = some false) ∧
    (∀ t ∈ ["NoneType", "bool", "int", "str", "tuple", "list", "dict"], PySem.W.kitOne K (.type t) (.ref (He.ga K (clsN c))) = some false) ∧
    (∀ d, isKnown K d = true → PySem.W.kitOne K (.ref (He.ga K (clsN c))) (.ref (He.ga K (clsN d))) = some (c == d)) := by
  have h := List.all_eq_true.mp k c (List.mem_range.mpr (known_lt hc))
  rw [hc] at h
  simp only [Bool.not_true, Bool.false_or, Bool.and_eq_true] at h
  obtain ⟨⟨⟨⟨h01, h02⟩, h1⟩, h2⟩, h3⟩ := h
  refine ⟨h01, fun f hf => He.eqO_ok (List.all_eq_true.mp h02 f hf), fun t ht => of_decide_eq_true (List.all_eq_true.mp h1 t ht), fun t ht => of_decide_eq_true (List.all_eq_true.mp h2 t ht), fun d hd => ?_⟩
  have q := List.all_eq_true.mp h3 d (List.mem_range.mpr (known_lt hd))
  rw [hd] at q
  simpa using q
def tyVal (K : Kc) : Ty → Value
  | .own c => .ref (CL K c)
  | t => .type (tyName t)
def tyKn (K : Kc) : Ty → Bool
  | .own c => isKnown K.K c
  | _ => true
theorem dTy_mem : ∀ {a : D}, tyOk a = true → (∀ c ds, a ≠ .obj c ds) → dTy a ∈ ["NoneType", "bool", "int", "str", "tuple", "list", "dict"]
  | .non, _, _ => by simp [dTy]
  | .bl _, _, _ => by simp [dTy]
  | .int _, _, _ => by simp [dTy]
  | .str _, _, _ => by simp [dTy]
  | .tup _, _, _ => by simp [dTy]
  | .lst _, _, _ => by simp [dTy]
  | .dic _ _, _, _ => by simp [dTy]
  | .obj c ds, _, h => absurd rfl (h c ds)
theorem Vw.ty {g : Gh} {n : Nat} : ∀ {a : D} {x : V}, tyOk a = true → (∀ c ds, a ≠ .obj c ds) → Vw K g n H a x → TyX K H x (.type (dTy a))
  | .non, _, _, _, h => by cases (show _ = V.non from h); exact .base .non
  | .bl b, _, _, _, h => by cases (show _ = V.bl b from h); exact .base (.bl b)
  | .int i, _, _, _, h => by cases (show _ = V.int i from h); exact .base (.int i)
  | .str z, _, _, _, h => by cases (show _ = V.str z from h); exact .base (.str z)
  | .lst ds, _, _, _, ⟨a, vs, e, h, _⟩ => by subst e; exact .base (.lst h)
  | .tup ds, _, _, _, ⟨a, vs, e, h, _⟩ => by
    subst e
    rcases h with ⟨h | ⟨o, h⟩, _⟩ | ⟨o, its, n, h1, h2, _⟩
    · exact .base (.tup h)
    · exact .fTuple h
    · exact .kTuple h1 h2
  | .dic _ _, _, _, _, ⟨a, kk, ws, e, ⟨kvs, h, _⟩, _⟩ => by subst e; exact .base (.dK h)
  | .obj c ds, _, _, h, _ => absurd rfl (h c ds)
/-- what isinstance finds -/
theorem Vw.kit {g : Gh} {n : Nat} (k : KitB K.K = true) {a : D} {x : V} (ok : tyOk a = true) (r : Vw K g n H a x) : ∃ tv, TyX K H x tv ∧ ∀ t, tyKn K t = true → PySem.W.kitOne K tv (tyVal K t) = some (tyD a t) := by
  by_cases ho : ∃ c ds, a = .obj c ds
  · obtain ⟨c, ds, rfl⟩ := ho
    obtain ⟨p, vs, e, ⟨hc, hl, dx, h⟩, _⟩ := r
    subst e
    obtain ⟨k0, k01, k1, k2, k3⟩ := KitB.at k hc
    obtain ⟨c1, c2, c3, c4, c5⟩ := clsB_ok k0
    refine ⟨.ref (CL K c), .base (.ins h c1 c2 c3 c4 c5), fun t ht => ?_⟩
    cases t with
    | own d => exact k3 d ht
    | int => exact k1 _ (by simp [tyName])
    | bool => exact k1 _ (by simp [tyName])
    | str => exact k1 _ (by simp [tyName])
    | list => exact k1 _ (by simp [tyName])
    | tuple => exact k1 _ (by simp [tyName])
    | dict => exact k1 _ (by simp [tyName])
  · have no : ∀ c ds, a ≠ .obj c ds := fun c ds e => ho ⟨c, ds, e⟩
    refine ⟨_, r.ty ok no, fun t ht => ?_⟩
    cases t with
    | own d =>
      have e : tyD a (.own d) = false := by cases a <;> first | rfl | exact absurd rfl (no _ _)
      rw [e]
      exact (KitB.at k ht).2.2.2.1 _ (dTy_mem ok no)
    | int => exact kit_ty (kit_all a _ ok no rfl)
    | bool => exact kit_ty (kit_all a _ ok no rfl)
    | str => exact kit_ty (kit_all a _ ok no rfl)
    | list => exact kit_ty (kit_all a _ ok no rfl)
    | tuple => exact kit_ty (kit_all a _ ok no rfl)
    | dict => exact kit_ty (kit_all a _ ok no rfl)
/-- the class as it is written -/
def tyV' (K : Kc) : Ty → V
  | .own c => .ref (CL K c)
  | t => .ty (tyName t)
theorem clsV_ty {K : Kc} (t : Ty) : ClsV (tyV' K t) (tyVal K t) := by
  cases t with
  | own c => exact .own _
  | _ => exact .ty _
theorem post_isi1 {x : V} {t : Ty} {tp : Bool} (k : KitB K.K = true) (ht : tyKn K t = true) (h : OpPost K s (.isi [t] tp) false [x] H Q) : rIsi K [x, tyV' K t] H Q := by
  obtain ⟨g, st, ds, Qd, A, r, w, hq⟩ := h
  obtain ⟨a, rfl, ok, w2⟩ := any1_inv (show any1 ds _ from w)
  obtain ⟨x', e, r1⟩ := r.to1
  cases e
  obtain ⟨tv, h1, h2⟩ := r1.kit k ok
  refine ⟨x, _, _, _, tyD a t, rfl, clsV_ty t, h1, h2 t ht, OpPost.plain A hq (d := .bl (tyD a t)) ?_ rfl⟩
  have e2 : ([t].any (tyD a)) = tyD a t := by simp
  rw [e2] at w2
  exact w2
theorem kitAny_of {K : Kc} {a : D} {tv : Value} : ∀ {ts : List Ty}, (∀ t ∈ ts, PySem.W.kitOne K.K tv (tyVal K t) = some (tyD a t)) → PySem.W.kitAny K.K tv (ts.map (tyVal K)) = some (ts.any (tyD a))
  | [], _ => rfl
  | t :: ts, h => by
    have h1 := h t (List.mem_cons_self)
    have h2 := kitAny_of (ts := ts) fun u hu => h u (List.mem_cons_of_mem _ hu)
    show (match PySem.W.kitOne K.K tv (tyVal K t) with
      | some true => some true
      | some false => PySem.W.kitAny K.K tv (ts.map (tyVal K))
      | none => none) = _
    rw [h1]
    cases e : tyD a t with
    | true => simp [e]
    | false => simp [e, h2]
theorem clsV_tys {K : Kc} : ∀ ts : List Ty, Paired ClsV (ts.map (tyV' K)) (ts.map (tyVal K))
  | [] => .nil
  | t :: ts => .cons (clsV_ty t) (clsV_tys ts)
theorem post_isiT {x : V} {ts : List Ty} {tp : Bool} (k : KitB K.K = true) (ht : ∀ t ∈ ts, tyKn K t = true) (h : OpPost K s (.isi ts tp) false [x] H Q) (p : Addr) (hp : H p = none) : rIsiT K [x, .ref p] (upd H p (.tup (ts.map (tyV' K)))) Q := by
  obtain ⟨g, st, ds, Qd, A, r, w, hq⟩ := h
  obtain ⟨a, rfl, ok, w2⟩ := any1_inv (show any1 ds _ from w)
  obtain ⟨x', e, r1⟩ := r.to1
  cases e
  obtain ⟨A', ex⟩ := A.alloc hp (.tup (ts.map (tyV' K)))
  have r2 : Vw K g st.h.length (upd H p (.tup (ts.map (tyV' K)))) a x := by
    have ke : ∀ b o, H b = some o → upd H p (.tup (ts.map (tyV' K))) b = some o := fun b o h => by rw [upd_ne (ne_of_none h hp)]; exact h
    have kk := ex.kp A.mw
    cases a with
    | lst ds => obtain ⟨q, vs, e, h, r⟩ := r1; exact ⟨q, vs, e, ke _ _ h, r.kp kk⟩
    | dic ks es => obtain ⟨q, kk', ws, e, ⟨kvs, h, e1, e2⟩, r1, r2⟩ := r1; exact ⟨q, kk', ws, e, ⟨kvs, ke _ _ h, e1, e2⟩, r1.kp kk, r2.kp kk⟩
    | obj c ds => obtain ⟨q, vs, e, ⟨h1, h2, dx, h⟩, r⟩ := r1; exact ⟨q, vs, e, ⟨h1, h2, dx, ke _ _ h⟩, r.kp kk⟩
    | non => exact r1
    | bl b => exact r1
    | int b => exact r1
    | str b => exact r1
    | tup ds => exact Rep.kp kk r1
    | _ => cases ok
  obtain ⟨tv, h1, h2⟩ := r2.kit k ok
  exact ⟨x, p, _, tv, ts.map (tyVal K), _, rfl, upd_same, clsV_tys ts, h1, kitAny_of fun t z => h2 t (ht t z), hq _ _ _ _ w2 ex A' rfl⟩
/-! ### slices, texts, fields -/
theorem Reps.take {g : Gh} {n : Nat} : ∀ {ds : List D} {vs : List V} (k : Nat), Reps K g n H ds vs → Reps K g n H (ds.take k) (vs.take k)
  | [], _, k, h => by cases h; simp [Reps]
  | _ :: _, _, 0, h => by simp [Reps]
  | _ :: _, _, k + 1, ⟨v, r, e, h, t⟩ => by subst e; exact ⟨v, _, rfl, h, Reps.take k t⟩
theorem Reps.drop {g : Gh} {n : Nat} : ∀ {ds : List D} {vs : List V} (k : Nat), Reps K g n H ds vs → Reps K g n H (ds.drop k) (vs.drop k)
  | [], _, k, h => by cases h; simp [Reps]
  | _ :: _, _, 0, h => by simpa using h
  | _ :: _, _, k + 1, ⟨v, r, e, h, t⟩ => by subst e; exact Reps.drop k t
theorem Reps.cut {g : Gh} {n : Nat} {ds : List D} {vs : List V} (h : Reps K g n H ds vs) (lo hi : Option Int) : Reps K g n H (cutL ds lo hi) (cutV vs lo hi) := by
  unfold cutL cutV
  rw [h.length]
  exact (h.drop _).take _
theorem cutL_all {α : Type} {xs : List α} {lo hi : Option Int} (h : HT.sIx xs.length 0 lo = 0 ∧ HT.sIx xs.length xs.length hi = xs.length) : cutL xs lo hi = xs := by
  unfold cutL
  rw [h.1, h.2]
  simp
/-- a slice of a list, a tuple, a text -/
def rSl3 (K : PySem.W.Frag) : V → Option Int → Option Int → Hp → VK → Prop := fun x lo hi H Q => rSlL K x lo hi H Q ∨ rSlA K x lo hi H Q ∨ rSlS x lo hi H Q
theorem cut_post {g : Gh} {st : Stt} {a : D} {x : V} {lo hi : Option Int} {Qd : D → Prop} (A : Abs K g st s H) (r : Vw K g st.h.length H a x) (w : cutW a lo hi Qd)
    (hq : ∀ d v g' H', Qd d → Ext g st.h.length H g' st.h.length H' → Abs K g' st s H' → RepM K g' st s H' false d v → Q v H') : rSl3 K x lo hi H Q := by
  unfold cutW at w
  split at w
  · obtain ⟨p, vs, e, h, q⟩ := r
    exact .inl ⟨p, vs, e, SqL.of h, fun l hl => new_lst A hq w (q.cut lo hi) hl⟩
  · have r2 := r
    obtain ⟨p, vs, e, h, q⟩ := r
    refine .inr (.inl ⟨p, vs, e, h.sq, fun z => ?_, fun _ l hl => new_tup A hq w (q.cut lo hi) hl⟩)
    rw [q.length] at z
    rw [cutL_all z] at w
    rw [← e]
    exact OpPost.plain A hq w r2
  · exact .inr (.inr ⟨_, r, w.1, OpPost.plain A hq w.2 rfl⟩)
  · exact w.elim
theorem post_sl0 {x : V} (h : OpPost K s (.sl false false) false [x] H Q) : rSl3 K x none none H Q := by
  obtain ⟨g, st, ds, Qd, A, r, w, hq⟩ := h
  obtain ⟨a, rfl, r1⟩ := r.one
  exact cut_post A r1 (show cutW a none none Qd from w) hq
theorem post_sl1 {x y : V} (h : OpPost K s (.sl true false) false [x, y] H Q) : ∃ i, y = .int i ∧ rSl3 K x (some i) none H Q := by
  obtain ⟨g, st, ds, Qd, A, r, w, hq⟩ := h
  obtain ⟨a, b, rfl, r1, r2⟩ := r.two
  cases b with
  | int i => exact ⟨i, r2, cut_post A r1 (show cutW a (some i) none Qd from w) hq⟩
  | _ => exact (show False from w).elim
theorem post_sl2 {x y : V} (h : OpPost K s (.sl false true) false [x, y] H Q) : ∃ i, y = .int i ∧ rSl3 K x none (some i) H Q := by
  obtain ⟨g, st, ds, Qd, A, r, w, hq⟩ := h
  obtain ⟨a, b, rfl, r1, r2⟩ := r.two
  cases b with
  | int i => exact ⟨i, r2, cut_post A r1 (show cutW a none (some i) Qd from w) hq⟩
  | _ => exact (show False from w).elim
theorem str2_inv {ds : List D} {k : Str → Str → Prop} (h : str2 ds k) : ∃ i j, ds = [.str i, .str j] ∧ k i j := by
  unfold str2 at h
  split at h
  · exact ⟨_, _, rfl, h⟩
  · exact h.elim
theorem strs_rep {g : Gh} {n : Nat} : ∀ {es : List D} {ys : List Str} {vs : List V}, strsD es = some ys → Reps K g n H es vs → vs = ys.map V.str
  | [], ys, _, e, h => by cases e; cases h; rfl
  | .str x :: es, ys, _, e, ⟨v, r, e2, h, t⟩ => by
    subst e2
    simp only [strsD, Option.map_eq_some_iff] at e
    obtain ⟨zs, e1, rfl⟩ := e
    cases (show v = V.str x from h)
    rw [strs_rep e1 t]
    rfl
  | .non :: _, _, _, e, _ => by cases e
  | .bl _ :: _, _, _, e, _ => by cases e
  | .int _ :: _, _, _, e, _ => by cases e
  | .tup _ :: _, _, _, e, _ => by cases e
  | .lst _ :: _, _, _, e, _ => by cases e
  | .dic _ _ :: _, _, _, e, _ => by cases e
  | .obj _ _ :: _, _, _, e, _ => by cases e
  | .exc _ _ :: _, _, _, e, _ => by cases e
  | .cell _ :: _, _, _, e, _ => by cases e
  | .scr _ :: _, _, _, e, _ => by cases e
theorem Reps.strs {g : Gh} {n : Nat} (ys : List Str) : Reps K g n H (ys.map D.str) (ys.map V.str) := by
  induction ys with
  | nil => rfl
  | cons y ys ih => exact ⟨_, _, rfl, rfl, ih⟩
abbrev mJoin (K : PySem.W.Frag) : V → List V → Hp → VK → Prop := fun x xs H Q => ∃ a p, ∃ ys : List Str, x = .str a ∧ xs = [.ref p] ∧ (SqL K H p (ys.map V.str) ∨ SqT K H p (ys.map V.str)) ∧ (ys.map (·.length)).sum + ys.length * a.length ≤ 16777216 ∧ Q (.str (Txt.join a ys)) H
theorem post_join {x y : V} (h : OpPost K s .join false [x, y] H Q) : mJoin K x [y] H Q := by
  obtain ⟨g, st, ds, Qd, A, r, w, hq⟩ := h
  obtain ⟨a, b, rfl, r1, r2⟩ := r.two
  have w' : joinW [a, b] Qd := w
  cases a with
  | str z =>
    obtain ⟨es, ys, e1, e2, hl, q⟩ := w'
    obtain ⟨p, vs, rfl, hs, r3⟩ := r2.seq e1
    have e3 := strs_rep e2 r3
    subst e3
    exact ⟨z, p, ys, r1, rfl, hs, hl, OpPost.plain A hq q rfl⟩
  | _ => exact (show False from w').elim
abbrev mSplit : V → List V → Hp → VK → Prop := fun x xs H Q => ∃ a b, x = .str a ∧ xs = [.str b] ∧ (b.length == 0) = false ∧ a.length + 2 ≤ sizeLine ∧ rNewStrs (Txt.split a b) H Q
theorem post_split {x y : V} (h : OpPost K s .split m [x, y] H Q) : mSplit x [y] H Q := by
  obtain ⟨g, st, ds, Qd, A, r, w, hq⟩ := h
  obtain ⟨a, b, rfl, ⟨h1, h2⟩, q⟩ := str2_inv (show str2 ds _ from w)
  obtain ⟨a', b', e, r1, r2⟩ := r.two
  cases e
  exact ⟨a, b, r1, by rw [show y = V.str b from r2], h1, h2, fun p hp => new_lst A hq q (Reps.strs _) hp⟩
abbrev mRmpre : V → List V → Hp → VK → Prop := fun x xs H Q => ∃ a b, x = .str a ∧ xs = [.str b] ∧ a.length ≤ sizeLine ∧ Q (.str (Txt.removeprefix a b)) H
theorem post_rmpre {x y : V} (h : OpPost K s .rmpre false [x, y] H Q) : mRmpre x [y] H Q := by
  obtain ⟨g, st, ds, Qd, A, r, w, hq⟩ := h
  obtain ⟨a, b, rfl, h1, q⟩ := str2_inv (show str2 ds _ from w)
  obtain ⟨a', b', e, r1, r2⟩ := r.two
  cases e
  exact ⟨a, b, r1, by rw [show y = V.str b from r2], h1, OpPost.plain A hq q rfl⟩
abbrev mStarts : V → List V → Hp → VK → Prop := fun x xs H Q => ∃ a b, x = .str a ∧ xs = [.str b] ∧ Q (.bl (Txt.startswith a b)) H
theorem post_starts {x y : V} (h : OpPost K s .starts false [x, y] H Q) : mStarts x [y] H Q := by
  obtain ⟨g, st, ds, Qd, A, r, w, hq⟩ := h
  obtain ⟨a, b, rfl, q⟩ := str2_inv (show str2 ds _ from w)
  obtain ⟨a', b', e, r1, r2⟩ := r.two
  cases e
  exact ⟨a, b, r1, by rw [show y = V.str b from r2], OpPost.plain A hq q rfl⟩
abbrev mFind : V → List V → Hp → VK → Prop := fun x xs H Q => ∃ a b, x = .str a ∧ xs = [.str b] ∧ Q (.int (Txt.find a b)) H
theorem post_find {x y : V} (h : OpPost K s .find false [x, y] H Q) : mFind x [y] H Q := by
  obtain ⟨g, st, ds, Qd, A, r, w, hq⟩ := h
  obtain ⟨a, b, rfl, q⟩ := str2_inv (show str2 ds _ from w)
  obtain ⟨a', b', e, r1, r2⟩ := r.two
  cases e
  exact ⟨a, b, r1, by rw [show y = V.str b from r2], OpPost.plain A hq q rfl⟩
theorem post_index {x y : V} {W : WX} (h : OpPost K s .index false [x, y] H Q) : rIndexX W s x [y] H Q := by
  obtain ⟨g, st, ds, Qd, A, r, w, hq⟩ := h
  obtain ⟨a, b, rfl, k, hk, q⟩ := str2_inv (show str2 ds _ from w)
  obtain ⟨a', b', e, r1, r2⟩ := r.two
  cases e
  refine ⟨a, b, r1, by rw [show y = V.str b from r2], fun j hj => ?_, fun hn => ?_⟩
  · rw [hk] at hj
    cases hj
    exact OpPost.plain A hq q rfl
  · rw [hk] at hn
    cases hn
theorem ix_lookup {β : Type} : ∀ {ks : List Str} {vs : List β} {x : Str} {i : Nat} {v : β}, ks.idxOf? x = some i → vs[i]? = some v → (ks.zip vs).lookup x = some v
  | [], _, _, _, _, e, _ => by simp at e
  | a :: ks, [], _, _, _, _, e => by simp at e
  | a :: ks, b :: vs, x, i, v, e1, e2 => by
    rw [List.idxOf?_cons] at e1
    rw [List.zip_cons_cons, List.lookup_cons]
    by_cases h : a = x
    · subst h
      simp at e1
      subst e1
      simpa using e2
    · have h1 : (a == x) = false := by simpa using h
      have h2 : (x == a) = false := by simpa using fun z => h z.symm
      rw [h1] at e1
      rw [h2]
      simp only [Bool.false_eq_true, if_false, Option.map_eq_some_iff] at e1
      obtain ⟨j, e3, rfl⟩ := e1
      exact ix_lookup e3 (by simpa using e2)
theorem ix_mem {ks : List Str} {x : Str} {i : Nat} (h : ks.idxOf? x = some i) : x ∈ ks := by
  have := List.isSome_idxOf? (l := ks) (a := x)
  rw [h] at this
  simpa using this
/-- o.f -/
theorem post_fld {x : V} {f : Str} (kt : KitB K.K = true) (h : OpPost K s (.fld f) false [x] H Q) : ∃ a C dx fs v, x = .ref a ∧ H a = some (.ins C dx fs) ∧ Cls K.K C ∧ NoAttr K.K C f ∧ fs.lookup f = some v ∧ Q v H := by
  obtain ⟨g, st, ds, Qd, A, r, w, hq⟩ := h
  obtain ⟨a, rfl, w2⟩ := any1_inv (show any1 ds _ from w)
  obtain ⟨x', e, r1⟩ := r.to1
  cases e
  cases a with
  | obj c ds =>
    obtain ⟨k, d, h1, h2, q⟩ := w2
    obtain ⟨p, vs, rfl, ⟨hc, hl, dx, hp⟩, r2⟩ := r1
    obtain ⟨v, e2, rv⟩ := r2.get h2
    obtain ⟨k0, k01, _⟩ := KitB.at kt hc
    exact ⟨p, _, dx, _, v, rfl, hp, (clsB_ok k0).1, k01 f (ix_mem h1), ix_lookup h1 e2, OpPost.plain A hq q rv⟩
  | _ => exact (show False from w2).elim
end
end Mp
namespace Mp
open PySem PySem.Spec L2

/-- the expression e of the text is t -/
def SE (X : Cx) (ER : ExT) (Wx : WX) (C : Calls) (e : Expr) (t : Ex) (m : Bool) : Prop := PE X e (rdE (kz X) ER Wx (wE C t) m)
def SO (X : Cx) (ER : ExT) (Wx : WX) (C : Calls) (e : Expr) (t : Ex) : Prop := PE X e (rdO (kz X) ER Wx C t)
def SA (X : Cx) (ER : ExT) (Wx : WX) (C : Calls) (es : List Expr) (ts : List Ex) : Prop := PA X es (rdA (kz X) ER Wx (wA C ts))
def SL (X : Cx) (ER : ExT) (Wx : WX) (C : Calls) (es : List Expr) (ts : List Ex) : Prop := PA X es (rdL (kz X) ER Wx ts.length (wL C ts))
def ST (X : Cx) (ER : ExT) (Wx : WX) (C : Calls) (e : Expr) (t : Ex) : Prop := PT X e (rdT (kz X) ER Wx (wT C t))
def isBrw : Ex → Bool
  | .brw _ => true
  | _ => false
def notStar : Expr → Bool
  | .Starred _ _ => false
  | _ => true
theorem star_of {e : Expr} (h : notStar e = true) (es : List Expr) (env : Env) : starEach (e :: es) env = (false, eval e env) :: starEach es env := by
  cases e <;> first | rfl | cases h
theorem star_any : ∀ {es : List Expr} (h : es.all notStar = true) (pos : Pos) (env : Env), (backTo pos (starEach es env)).any (·.1) = false
  | [], _, _, _ => rfl
  | e :: es, h, pos, env => by
    have h' : notStar e = true ∧ es.all notStar = true := by simpa only [List.all_cons, Bool.and_eq_true] using h
    rw [star_of h'.1]
    show (false || (backTo pos (starEach es env)).any (·.1)) = false
    rw [star_any h'.2]
    rfl

section
variable {X : Cx} {ER : ExT} {Wx : WX} {C : Calls} {m : Bool}
theorem SO.of {e : Expr} {t : Ex} (h : SE X ER Wx C e t false) (hb : isBrw t = false) : SO X ER Wx C e t := by
  have e2 : rdO (kz X) ER Wx C t = rdE (kz X) ER Wx (wE C t) false := by
    cases t <;> first | rfl | cases hb
  show PE X e (rdO (kz X) ER Wx C t)
  rw [e2]
  exact h
theorem so_brw {i : Nat} {x : Str} {pos : Pos} (hN : X.N[i]? = some x) (hv : Vis X.env.scope x) (hd : (x == ("__debug__" : Str)) = false) (hcd : (x == ("__classdict__" : Str)) = false) : SO X ER Wx C (.Name x pos) (.brw i) := pe_var hN hv hd hcd
theorem sa_nil : SA X ER Wx C [] [] := paImp pa_nil fun s H Q h => split_nil h
theorem sa_cons {e : Expr} {es : List Expr} {t : Ex} {ts : List Ex} (h : SO X ER Wx C e t) (hs : SA X ER Wx C es ts) (hst : notStar e = true) : SA X ER Wx C (e :: es) (t :: ts) :=
  paImp (pa_cons h hs (star_of hst _ _)) fun s H Q h => split_cons h
theorem sl_nil : SL X ER Wx C [] [] := paImp pa_nil fun s H Q h => splitL_nil h
theorem sl_cons {e : Expr} {es : List Expr} {t : Ex} {ts : List Ex} (h : SE X ER Wx C e t false) (hs : SL X ER Wx C es ts) (hst : notStar e = true) : SL X ER Wx C (e :: es) (t :: ts) :=
  paImp (pa_cons h hs (star_of hst _ _)) fun s H Q h => splitL_cons h

/-! ### constants and names -/
theorem rdE_con {d : D} {v : V} {s : L2.St} {H : Hp} {Q : VK} (h : rdE (kz X) ER Wx (wE C (.con d)) m s H Q) (hr : ∀ g n H, Rep (kz X) g n H d v) (hm : m = false ∨ scalD d = true) : Q v H := by
  obtain ⟨g, st, Qd, Xd, A, w, hq, hx⟩ := h
  have w' : Qd d st := by simpa only [wE] using w
  refine hq _ _ _ _ _ w' (Ext.refl _ _ _) A ?_
  cases m with
  | false => exact hr _ _ _
  | true => exact .inr ⟨hm.resolve_left (by simp), hr _ _ _⟩
theorem se_int {i j pos} : SE X ER Wx C (.Constant (.int i) j pos) (.con (.int i)) m := peImp pe_int fun s H Q h => rdE_con h (fun _ _ _ => rfl) (.inr rfl)
theorem se_bl {b j pos} : SE X ER Wx C (.Constant (.bool b) j pos) (.con (.bl b)) m := peImp pe_bl fun s H Q h => rdE_con h (fun _ _ _ => rfl) (.inr rfl)
theorem se_non {j pos} : SE X ER Wx C (.Constant .none j pos) (.con .non) m := peImp pe_non fun s H Q h => rdE_con h (fun _ _ _ => rfl) (.inr rfl)
theorem se_str {x j pos} : SE X ER Wx C (.Constant (.str x) j pos) (.con (.str x)) m := peImp pe_str fun s H Q h => rdE_con h (fun _ _ _ => rfl) (.inr rfl)
theorem se_glo {x : Str} {d : D} {v : V} {u : Value} {pos : Pos} (hg : Gl X x) (hm : X.mg x = some u) (r : RelV v u) (hr : ∀ g n H, Rep (kz X) g n H d v) (hd : (x == ("__debug__" : Str)) = false) : SE X ER Wx C (.Name x pos) (.con d) false :=
  peImp (pe_glob hg hm r hd) fun s H Q h => rdE_con h hr (.inl rfl)
theorem se_var {i : Nat} {x : Str} {pos : Pos} (hN : X.N[i]? = some x) (hv : Vis X.env.scope x) (hd : (x == ("__debug__" : Str)) = false) (hcd : (x == ("__classdict__" : Str)) = false) : SE X ER Wx C (.Name x pos) (.var i) false :=
  peImp (pe_var hN hv hd hcd) fun s H Q h => by
    obtain ⟨g, st, Qd, Xd, A, w, hq, hx⟩ := h
    simp only [wE] at w
    split at w
    · rename_i d e
      obtain ⟨ov, e1, v, e2, r⟩ := A.sl i _ e
      exact ⟨v, by rw [e1, e2], hq _ _ _ _ _ w (Ext.refl _ _ _) A r⟩
    · rename_i d e
      obtain ⟨a, e1, A', x, r⟩ := A.freeze e
      exact ⟨_, e1, hq _ _ _ _ _ w x A' r⟩
    · exact w.elim
theorem se_mov {i : Nat} {x : Str} {pos : Pos} (hN : X.N[i]? = some x) (hv : Vis X.env.scope x) (hd : (x == ("__debug__" : Str)) = false) (hcd : (x == ("__classdict__" : Str)) = false) : SE X ER Wx C (.Name x pos) (.mov i) true :=
  peImp (pe_var hN hv hd hcd) fun s H Q h => by
    obtain ⟨g, st, Qd, Xd, A, w, hq, hx⟩ := h
    simp only [wE] at w
    split at w
    · rename_i d e
      obtain ⟨a, e1, A', m1, r, no, nc⟩ := A.take e
      exact ⟨_, e1, hq _ _ _ _ _ w (Ext.refl _ _ _) A' (.inl ⟨a, rfl, m1, r, no, nc⟩)⟩
    · rename_i d e
      obtain ⟨ov, e1, v, e2, r⟩ := A.sl i _ e
      exact ⟨v, by rw [e1, e2], hq _ _ _ _ _ w.2 (Ext.refl _ _ _) A (.inr ⟨w.1, r⟩)⟩
    · exact w.elim

/-! ### operations -/
theorem se_bin {op : Operator} {o : Op} {r : R2} {a b : Expr} {ta tb : Ex} {pos : Pos} (ho : OpR X (binaryOp op) r) (hr : ∀ {s H Q x y}, OpPost (kz X) s o m [x, y] H Q → r x y H Q) (ha : SO X ER Wx C a ta) (hb : SO X ER Wx C b tb) :
    SE X ER Wx C (.BinOp a op b pos) (.op o [ta, tb]) m :=
  peImp (pe_op ho ha hb) fun s H Q h => rdO_mono (rdE_op2 h) fun x H1 h1 => rdO_mono h1 fun y H2 h2 => hr h2
theorem se_un {op : UnaryOp} {o : Op} {r : V → Hp → VK → Prop} {a : Expr} {ta : Ex} {pos : Pos} (ho : UnR X (unaryOp op) r) (hr : ∀ {s H Q x}, OpPost (kz X) s o m [x] H Q → r x H Q) (ha : SO X ER Wx C a ta) :
    SE X ER Wx C (.UnaryOp op a pos) (.op o [ta]) m :=
  peImp (pe_un ho ha) fun s H Q h => rdO_mono (rdE_op1 h) fun x H1 h1 => hr h1
theorem se_cmp {op : CmpOp} {o : Op} {r : R2} {a b : Expr} {ta tb : Ex} {pos : Pos} (ho : OpR X (compareOp op) r) (hr : ∀ {s H Q x y}, OpPost (kz X) s o false [x, y] H Q → r x y H Q) (ha : SO X ER Wx C a ta) (hb : SO X ER Wx C b tb) (hm : behindInMarks op b = false) :
    SE X ER Wx C (.Compare a [op] [b] pos) (.op o [ta, tb]) false :=
  peImp (pe_cmpR ho ha hb hm) fun s H Q h => rdO_mono (rdE_op2 h) fun x H1 h1 => rdO_mono h1 fun y H2 h2 => hr h2
theorem se_isN {j : Nat} {p pos : Pos} {a : Expr} {ta : Ex} (ha : SO X ER Wx C a ta) : SE X ER Wx C (.Compare a [.Is] [.Constant .none j p] pos) (.op .isN [ta]) false :=
  peImp (pe_cmp (pc_isN ha)) fun s H Q h => rdO_mono (rdE_op1 h) fun x H1 h1 => by
    obtain ⟨g, st, ds, Qd, A, r, w, hq⟩ := h1
    obtain ⟨a, rfl, w2⟩ := any1_inv (show any1 ds _ from w)
    obtain ⟨x', e, r1⟩ := r.to1
    cases e
    refine OpPost.plain A hq w2 ?_
    cases a with
    | non => cases (show x = V.non from r1); rfl
    | bl b => cases (show x = V.bl b from r1); rfl
    | int b => cases (show x = V.int b from r1); rfl
    | str b => cases (show x = V.str b from r1); rfl
    | lst b => obtain ⟨_, _, e, _⟩ := r1; cases e; rfl
    | tup b => obtain ⟨_, _, e, _⟩ := r1; cases e; rfl
    | dic b c => obtain ⟨_, _, _, e, _⟩ := r1; cases e; rfl
    | cell l => obtain ⟨_, e⟩ := r1; cases e; rfl
    | scr b => obtain ⟨_, _, e, _⟩ := r1; cases e; rfl
    | obj b c => obtain ⟨_, _, e, _⟩ := r1; cases e; rfl
    | exc b c => exact r1.elim
theorem se_isNotN {j : Nat} {p pos : Pos} {a : Expr} {ta : Ex} (ha : SO X ER Wx C a ta) : SE X ER Wx C (.Compare a [.IsNot] [.Constant .none j p] pos) (.op .isNotN [ta]) false :=
  peImp (pe_cmp (pc_notN ha)) fun s H Q h => rdO_mono (rdE_op1 h) fun x H1 h1 => by
    obtain ⟨g, st, ds, Qd, A, r, w, hq⟩ := h1
    obtain ⟨a, rfl, w2⟩ := any1_inv (show any1 ds _ from w)
    obtain ⟨x', e, r1⟩ := r.to1
    cases e
    refine OpPost.plain A hq w2 ?_
    cases a with
    | non => cases (show x = V.non from r1); rfl
    | bl b => cases (show x = V.bl b from r1); rfl
    | int b => cases (show x = V.int b from r1); rfl
    | str b => cases (show x = V.str b from r1); rfl
    | lst b => obtain ⟨_, _, e, _⟩ := r1; cases e; rfl
    | tup b => obtain ⟨_, _, e, _⟩ := r1; cases e; rfl
    | dic b c => obtain ⟨_, _, _, e, _⟩ := r1; cases e; rfl
    | cell l => obtain ⟨_, e⟩ := r1; cases e; rfl
    | scr b => obtain ⟨_, _, e, _⟩ := r1; cases e; rfl
    | obj b c => obtain ⟨_, _, e, _⟩ := r1; cases e; rfl
    | exc b c => exact r1.elim
/-- a built-in function by its name -/
theorem se_callB {id : String} {o : Op} {r : List V → Hp → VK → Prop} {x : Str} {e : Expr} {es : List Expr} {ts : List Ex} {p pos : Pos} (hc : CallR X (.builtin id) r) (hr : ∀ {s H Q vs}, OpPost (kz X) s o m vs H Q → r vs H Q)
    (hg : Gl X x) (hm : X.mg x = none) (hv : bootBuiltins x = some (.builtin id)) (ha : SA X ER Wx C (e :: es) ts) (hs : (e :: es).all notStar = true) (hn : x ≠ "__name__") (hd : (x == ("__debug__" : Str)) = false) :
    SE X ER Wx C (.Call (.Name x p) (e :: es) [] pos) (.op o ts) m := by
  have h' : notStar e = true ∧ es.all notStar = true := by simpa only [List.all_cons, Bool.and_eq_true] using hs
  exact peImp (pe_callB hc hg hm hv ha hn hd (star_of h'.1 _ _) (star_any h'.2 _ _)) fun s H Q h => rdA_mono (rdE_op h) fun vs H1 h1 => hr h1
theorem se_callTy {T : String} {o : Op} {r : List V → Hp → VK → Prop} {x : Str} {e : Expr} {es : List Expr} {ts : List Ex} {p pos : Pos} (hc : CallR X (.type T) r) (hr : ∀ {s H Q vs}, OpPost (kz X) s o m vs H Q → r vs H Q)
    (hg : Gl X x) (hm : X.mg x = none) (hv : bootBuiltins x = some (.type T)) (ha : SA X ER Wx C (e :: es) ts) (hs : (e :: es).all notStar = true) (hn : x ≠ "__name__") (hd : (x == ("__debug__" : Str)) = false) :
    SE X ER Wx C (.Call (.Name x p) (e :: es) [] pos) (.op o ts) m := by
  have h' : notStar e = true ∧ es.all notStar = true := by simpa only [List.all_cons, Bool.and_eq_true] using hs
  exact peImp (pe_callTy hc hg hm hv ha hn hd (star_of h'.1 _ _) (star_any h'.2 _ _)) fun s H Q h => rdA_mono (rdE_op h) fun vs H1 h1 => hr h1
theorem call_repr_b : CallR X (.builtin "repr") (fun xs H Q => (∃ b, xs = [.bl b] ∧ Q (.str (if b then "True" else "False")) H) ∨ (xs = [.non] ∧ Q (.str "None") H)) := by
  intro pins s σ H xs us Q I r h
  rcases h with ⟨b, rfl, q⟩ | ⟨rfl, q⟩
  · obtain ⟨u, rfl, rx⟩ := vals1 r
    cases rx
    exact PySem.P.repr_of_bool ⟨.str _, H, I.tok _, ⟨_, rfl⟩, q⟩
  · obtain ⟨u, rfl, rx⟩ := vals1 r
    cases rx
    exact PySem.P.repr_of_none ⟨.str _, H, I.tok _, ⟨_, rfl⟩, q⟩
/-- a class by its name -/
theorem pe_cls {t : Ty} {x : Str} {p : Pos} (hx : x = (match t with | .own c => clsN c | t => Str.ofString (tyName t))) (hg : Gl X x) (hn : x ≠ "__name__") (hd : (x == ("__debug__" : Str)) = false)
    (hm : match t with | .own c => X.mg x = some (.ref (CL (kz X) c)) | _ => X.mg x = none) : PE X (.Name x p) (tC (tyV' (kz X) t)) := by
  cases t with
  | own c => exact pe_glob (v := .ref (CL (kz X) c)) hg hm rfl hd
  | int => subst hx; exact pe_bltn (v := .ty "int") hg hm (by decide +kernel) rfl hn hd
  | bool => subst hx; exact pe_bltn (v := .ty "bool") hg hm (by decide +kernel) rfl hn hd
  | str => subst hx; exact pe_bltn (v := .ty "str") hg hm (by decide +kernel) rfl hn hd
  | list => subst hx; exact pe_bltn (v := .ty "list") hg hm (by decide +kernel) rfl hn hd
  | tuple => subst hx; exact pe_bltn (v := .ty "tuple") hg hm (by decide +kernel) rfl hn hd
  | dict => subst hx; exact pe_bltn (v := .ty "dict") hg hm (by decide +kernel) rfl hn hd
/-- isinstance(e, T) -/
theorem se_isi1 {a c : Expr} {ta : Ex} {t : Ty} {p pos : Pos} (k : KitB X.K = true) (ht : tyKn (kz X) t = true) (hg : Gl X "isinstance") (hm : X.mg "isinstance" = none) (hc : PE X c (tC (tyV' (kz X) t))) (hcs : notStar c = true) (ha : SO X ER Wx C a ta) (hs : notStar a = true) :
    SE X ER Wx C (.Call (.Name "isinstance" p) [a, c] [] pos) (.op (.isi [t] false) [ta]) false := by
  have h2 : PA X [a, c] (tCons (rdO (kz X) ER Wx C ta) (tCons (tC (tyV' (kz X) t)) tNil)) := pa_cons ha (pa_cons hc pa_nil (star_of hcs _ _)) (star_of hs _ _)
  refine peImp (pe_callB call_isi hg hm (by decide +kernel) h2 (by decide) (by decide) (star_of hs _ _) (star_any (by simp [hcs]) _ _)) fun s H Q h => ?_
  exact rdO_mono (rdE_op1 h) fun x H1 h1 => post_isi1 k ht h1
theorem pa_tys {ts : List Ty} {es : List Expr} (h : Paired (fun c t => PE X c (tC (tyV' (kz X) t)) ∧ notStar c = true) es ts) : PA X es (fun _ H Q => Q (ts.map (tyV' (kz X))) H) := by
  induction h with
  | nil => exact pa_nil
  | cons h1 _ ih => exact paImp (pa_cons h1.1 ih (star_of h1.2 _ _)) fun s H Q q => q
/-- isinstance(e, (T, U)) -/
theorem se_isiT {a : Expr} {cs : List Expr} {ta : Ex} {ts : List Ty} {kk : Nat} {p p2 pos : Pos} (k : KitB X.K = true) (ht : ∀ t ∈ ts, tyKn (kz X) t = true) (hg : Gl X "isinstance") (hm : X.mg "isinstance" = none) (hc : Paired (fun c t => PE X c (tC (tyV' (kz X) t)) ∧ notStar c = true) cs ts)
    (hlen : ts.length ≤ 1000) (ha : SO X ER Wx C a ta) (hs : notStar a = true) : SE X ER Wx C (.Call (.Name "isinstance" p) [a, .Tuple cs kk p2] [] pos) (.op (.isi ts true) [ta]) false := by
  have h2 : PA X [a, .Tuple cs kk p2] (tCons (rdO (kz X) ER Wx C ta) (tCons _ tNil)) := pa_cons ha (pa_cons (pe_tup (pa_tys hc)) pa_nil (star_of rfl _ _)) (star_of hs _ _)
  refine peImp (pe_callB call_isiT hg hm (by decide +kernel) h2 (by decide) (by decide) (star_of hs _ _) (star_any rfl _ _)) fun s H Q h => ?_
  refine rdO_mono (rdE_op1 h) fun x H1 h1 => ⟨?_, fun q hq => post_isiT k ht h1 q hq⟩
  rw [List.length_map, sizeLine_eq]
  exact Nat.le_trans hlen (by decide)
/-! ### methods of texts -/
def isCon : Ex → Bool
  | .con _ => true
  | _ => false
theorem slR_or {r r' : V → Option Int → Option Int → Hp → VK → Prop} (h : L2.SlR X r) (h' : L2.SlR X r') : L2.SlR X (fun x lo hi H Q => r x lo hi H Q ∨ r' x lo hi H Q) := by
  intro pins s σ H x v vl vu lo hi sl Q I rx hs pl pu q
  rcases q with q | q
  · exact h pins s σ H x v vl vu lo hi sl Q I rx hs pl pu q
  · exact h' pins s σ H x v vl vu lo hi sl Q I rx hs pl pu q
theorem sl_3 : L2.SlR X (rSl3 X.K) := slR_or sl_list (slR_or sl_tupA sl_str)
/-- a[:] -/
theorem se_sl0 {a : Expr} {ta : Ex} {p pos : Pos} (ha : SO X ER Wx C a ta) : SE X ER Wx C (.Subscript a (.Slice none none none p) pos) (.op (.sl false false) [ta]) false :=
  peImp (pe_slice sl_3 ha po_none po_none) fun s H Q h => rdO_mono (rdE_op1 h) fun x H1 h1 => post_sl0 h1
/-- a[i:] -/
theorem se_sl1 {a b : Expr} {ta tb : Ex} {p pos : Pos} (ha : SO X ER Wx C a ta) (hb : SO X ER Wx C b tb) : SE X ER Wx C (.Subscript a (.Slice (some b) none none p) pos) (.op (.sl true false) [ta, tb]) false :=
  peImp (pe_slice sl_3 ha (po_some hb) po_none) fun s H Q h => rdO_mono (rdE_op2 h) fun x H1 h1 => rdO_mono h1 fun y H2 h2 => post_sl1 h2
/-- a[:i] -/
theorem se_sl2 {a b : Expr} {ta tb : Ex} {p pos : Pos} (ha : SO X ER Wx C a ta) (hb : SO X ER Wx C b tb) : SE X ER Wx C (.Subscript a (.Slice none (some b) none p) pos) (.op (.sl false true) [ta, tb]) false :=
  peImp (pe_slice sl_3 ha po_none (po_some hb)) fun s H Q h => rdO_mono (rdE_op2 h) fun x H1 h1 => rdO_mono h1 fun y H2 h2 => post_sl2 h2
/-- o.f -/
theorem se_fld {a : Expr} {ta : Ex} {f : Str} {pos : Pos} (k : KitB X.K = true) (ha : SO X ER Wx C a ta) (hb : attributeBase a f X.env (eval a X.env) = eval a X.env) : SE X ER Wx C (.Attribute a f pos) (.op (.fld f) [ta]) false :=
  peImp (pe_fld ha hb) fun s H Q h => rdO_mono (rdE_op1 h) fun x H1 h1 => post_fld k h1
/-- is True, is False -/
theorem se_isB {a : Expr} {ta : Ex} {b : Bool} {j : Nat} {p pos : Pos} (ha : SO X ER Wx C a ta) : SE X ER Wx C (.Compare a [.Is] [.Constant (.bool b) j p] pos) (.op (if b then .isT else .isF) [ta]) false :=
  peImp (pe_cmpR op_isBl ha pe_bl (nomark _)) fun s H Q h => rdO_mono (rdE_op1 h) fun x H1 h1 => by
    obtain ⟨g, st, ds, Qd, A, r, w, hq⟩ := h1
    have w' : any1 ds fun a => isBW b false a Qd := by cases b <;> exact w
    obtain ⟨a, rfl, w2⟩ := any1_inv w'
    obtain ⟨x', e, r1⟩ := r.to1
    cases e
    cases a with
    | bl c => exact ⟨c, b, r1, rfl, OpPost.plain A hq w2 rfl⟩
    | _ => exact (show False from w2).elim
theorem se_isNB {a : Expr} {ta : Ex} {b : Bool} {j : Nat} {p pos : Pos} (ha : SO X ER Wx C a ta) : SE X ER Wx C (.Compare a [.IsNot] [.Constant (.bool b) j p] pos) (.op (if b then .isNT else .isNF) [ta]) false :=
  peImp (pe_cmpR op_notBl ha pe_bl (nomark _)) fun s H Q h => rdO_mono (rdE_op1 h) fun x H1 h1 => by
    obtain ⟨g, st, ds, Qd, A, r, w, hq⟩ := h1
    have w' : any1 ds fun a => isBW b true a Qd := by cases b <;> exact w
    obtain ⟨a, rfl, w2⟩ := any1_inv w'
    obtain ⟨x', e, r1⟩ := r.to1
    cases e
    cases a with
    | bl c => exact ⟨c, b, r1, rfl, OpPost.plain A hq w2 rfl⟩
    | _ => exact (show False from w2).elim
end
end Mp
namespace Mp
open PySem PySem.Spec L2

section
variable {K : Kc} {s : L2.St} {H H1 : Hp} {ER : ExT} {Wx : WX} {C : Calls} {m : Bool} {g g1 : Gh} {st st1 : Stt}
/-- going on behind a first part -/
theorem rdE_next {w : Stt → PD → PX → Prop} {Qd : PD} {Xd : PX} {Q : VK} (A1 : Abs K g1 st1 s H1) (x1 : Ext g st.h.length H g1 st1.h.length H1) (w1 : w st1 Qd Xd)
    (hq : ∀ d st' v g' H', Qd d st' → Ext g st.h.length H g' st'.h.length H' → Abs K g' st' s H' → RepM K g' st' s H' m d v → Q v H')
    (hx : ∀ c fs st' cls dd g' H', Xd c fs st' → Ext g st.h.length H g' st'.h.length H' → Abs K g' st' s H' → ER g' st'.h.length H' c fs cls dd → Wx cls dd s H') : rdE K ER Wx w m s H1 Q :=
  ⟨g1, st1, Qd, Xd, A1, w1, fun d st' v g' H' q x A r => hq d st' v g' H' q (x1.trans x) A r, fun c fs st' cls dd g' H' q x A r => hx c fs st' cls dd g' H' q (x1.trans x) A r⟩
theorem rdT_next {w : Stt → (Bool → Stt → Prop) → PX → Prop} {Qd : Bool → Stt → Prop} {Xd : PX} {Q : Bool → Hp → Prop} (A1 : Abs K g1 st1 s H1) (x1 : Ext g st.h.length H g1 st1.h.length H1) (w1 : w st1 Qd Xd)
    (hq : ∀ b st' g' H', Qd b st' → Ext g st.h.length H g' st'.h.length H' → Abs K g' st' s H' → Q b H')
    (hx : ∀ c fs st' cls dd g' H', Xd c fs st' → Ext g st.h.length H g' st'.h.length H' → Abs K g' st' s H' → ER g' st'.h.length H' c fs cls dd → Wx cls dd s H') : rdT K ER Wx w s H1 Q :=
  ⟨g1, st1, Qd, Xd, A1, w1, fun b st' g' H' q x A => hq b st' g' H' q (x1.trans x) A, fun c fs st' cls dd g' H' q x A r => hx c fs st' cls dd g' H' q (x1.trans x) A r⟩
theorem Reps.empty {n : Nat} {ds : List D} {vs : List V} (r : Reps K g n H ds vs) : vs.isEmpty = ds.isEmpty := by
  have h := r.length
  cases ds <;> cases vs <;> first | rfl | (simp at h)
theorem Vw.tru {n : Nat} {k : Bool} : ∀ {a : D} {x : V}, truD a = some k → Vw K g n H a x → TruV K x H k
  | .non, _, e, h => by cases (show _ = V.non from h); cases e; rfl
  | .bl b, _, e, h => by cases (show _ = V.bl b from h); cases e; rfl
  | .int i, _, e, h => by cases (show _ = V.int i from h); cases e; rfl
  | .lst ds, _, e, ⟨a, vs, e1, h, r⟩ => by subst e1; cases e; exact .inl ⟨vs, SqL.of h, by rw [r.empty]⟩
  | .tup ds, _, e, ⟨a, vs, e1, h, r⟩ => by subst e1; cases e; exact .inr (.inl ⟨vs, h.sq, by rw [r.empty]⟩)
end

section
variable {X : Cx} {ER : ExT} {Wx : WX} {C : Calls} {m : Bool}
/-! ### tuples, lists -/
theorem se_tup {es : List Expr} {ts : List Ex} {k : Nat} {pos : Pos} (h : SL X ER Wx C es ts) : SE X ER Wx C (.Tuple es k pos) (.tup ts) false :=
  peImp (pe_tup h) fun s H Q h => by
    obtain ⟨g, st, Qd, Xd, A, w, hq, hx⟩ := h
    have w2 : wL C ts st (fun ds st1 => ds.length ≤ 1000 ∧ Qd (.tup ds) st1) Xd := by simpa only [wE] using w
    refine ⟨g, st, _, Xd, A, w2, fun ds st1 vs g1 H1 ⟨hds, q⟩ x1 A1 r1 _ => ⟨?_, fun p hp => ?_⟩, hx⟩
    · rw [r1.length, sizeLine_eq]
      exact Nat.le_trans hds (by decide)
    · exact new_tup (Qd := fun d => Qd d st1) A1 (fun d v g' H' q' x' A' r' => hq d st1 v g' H' q' (x1.trans x') A' r') q r1 hp
theorem se_lst {es : List Expr} {ts : List Ex} {pos : Pos} (h : SL X ER Wx C es ts) : SE X ER Wx C (.List es pos) (.lst ts) m :=
  peImp (pe_lst h) fun s H Q h => by
    obtain ⟨g, st, Qd, Xd, A, w, hq, hx⟩ := h
    have w2 : wL C ts st (fun ds st1 => ds.length ≤ 1000 ∧ Qd (.lst ds) st1) Xd := by simpa only [wE] using w
    refine ⟨g, st, _, Xd, A, w2, fun ds st1 vs g1 H1 ⟨hds, q⟩ x1 A1 r1 _ => ⟨?_, fun p hp => ?_⟩, hx⟩
    · rw [r1.length, sizeLine_eq]
      exact Nat.le_trans hds (by decide)
    · exact new_lst (Qd := fun d => Qd d st1) A1 (fun d v g' H' q' x' A' r' => hq d st1 v g' H' q' (x1.trans x') A' r') q r1 hp

/-! ### and, or, not, if -/
theorem se_one {op : BoolOp} {a : Expr} {ta : Ex} {pos : Pos} (ha : SE X ER Wx C a ta m) : SE X ER Wx C (.BoolOp op [a] pos) ta m := pe_one ha
theorem se_and {a b : Expr} {rest : List Expr} {ta tb : Ex} {pos : Pos} (ha : SE X ER Wx C a ta false) (hb : SE X ER Wx C (.BoolOp .And (b :: rest) pos) tb false) : SE X ER Wx C (.BoolOp .And (a :: b :: rest) pos) (.andV ta tb) false :=
  peImp (pe_andT ha hb) fun s H Q h => by
    obtain ⟨g, st, Qd, Xd, A, w, hq, hx⟩ := h
    simp only [wE] at w
    refine ⟨g, st, _, Xd, A, w, fun d st1 v g1 H1 ⟨k, hk, w1⟩ x1 A1 r1 => ⟨k, (A1.view r1).tru hk, ?_⟩, hx⟩
    cases k with
    | true => exact rdE_next A1 x1 w1 hq hx
    | false => exact hq _ _ _ _ _ w1 x1 A1 r1
theorem se_or {a b : Expr} {rest : List Expr} {ta tb : Ex} {pos : Pos} (ha : SE X ER Wx C a ta false) (hb : SE X ER Wx C (.BoolOp .Or (b :: rest) pos) tb false) : SE X ER Wx C (.BoolOp .Or (a :: b :: rest) pos) (.orV ta tb) false :=
  peImp (pe_orT ha hb) fun s H Q h => by
    obtain ⟨g, st, Qd, Xd, A, w, hq, hx⟩ := h
    simp only [wE] at w
    refine ⟨g, st, _, Xd, A, w, fun d st1 v g1 H1 ⟨k, hk, w1⟩ x1 A1 r1 => ⟨k, (A1.view r1).tru hk, ?_⟩, hx⟩
    cases k with
    | true => exact hq _ _ _ _ _ w1 x1 A1 r1
    | false => exact rdE_next A1 x1 w1 hq hx
theorem se_not {a : Expr} {ta : Ex} {pos : Pos} (ha : SE X ER Wx C a ta false) : SE X ER Wx C (.UnaryOp .Not a pos) (.notV ta) false :=
  peImp (pe_notT ha) fun s H Q h => by
    obtain ⟨g, st, Qd, Xd, A, w, hq, hx⟩ := h
    simp only [wE] at w
    exact ⟨g, st, _, Xd, A, w, fun d st1 v g1 H1 ⟨k, hk, w1⟩ x1 A1 r1 => ⟨k, (A1.view r1).tru hk, hq _ _ _ _ _ w1 x1 A1 rfl⟩, hx⟩
theorem se_ite {c a b : Expr} {tc ta tb : Ex} {pos : Pos} (hc : ST X ER Wx C c tc) (ha : SE X ER Wx C a ta m) (hb : SE X ER Wx C b tb m) : SE X ER Wx C (.IfExp c a b pos) (.ite tc ta tb) m :=
  peImp (pe_ifExp hc ha hb) fun s H Q h => by
    obtain ⟨g, st, Qd, Xd, A, w, hq, hx⟩ := h
    simp only [wE] at w
    refine ⟨g, st, _, Xd, A, w, fun k st1 g1 H1 w1 x1 A1 => ?_, hx⟩
    cases k with
    | true => exact rdE_next A1 x1 w1 hq hx
    | false => exact rdE_next A1 x1 w1 hq hx
/-- the operands of a chain -/
theorem se_chn {op op' : CmpOp} {o o' : Op} {r r' : R2} {a b c : Expr} {ta tb tc : Ex} {pos : Pos} (ho : OpR X (compareOp op) r) (ho' : OpR X (compareOp op') r') (hr : ∀ {s H Q x y}, OpPost (kz X) s o false [x, y] H Q → r x y H Q) (hr' : ∀ {s H Q x y}, OpPost (kz X) s o' false [x, y] H Q → r' x y H Q)
    (ha : SE X ER Wx C a ta false) (hb : SE X ER Wx C b tb false) (hc : SE X ER Wx C c tc false) (hm : lastMarks [op, op'] [b, c] = false) : SE X ER Wx C (.Compare a [op, op'] [b, c] pos) (.chn o o' ta tb tc) false :=
  peImp (pe_chain ho ho' ha hb hc hm) fun s H Q h => by
    obtain ⟨g, st, Qd, Xd, A, w, hq, hx⟩ := h
    simp only [wE] at w
    refine ⟨g, st, _, Xd, A, w, fun d st1 v g1 H1 w1 x1 A1 r1 => ?_, hx⟩
    refine ⟨g1, st1, _, Xd, A1, w1, fun d2 st2 v2 g2 H2 w2 x2 A2 r2 => @hr s _ _ _ _ ?_, fun c fs st' cls dd g' H' q x A r => hx c fs st' cls dd g' H' q (x1.trans x) A r⟩
    have r1' := Rep.kp (x2.kp A1.mw) r1
    refine ⟨g2, st2, [view st2.h d, view st2.h d2], _, A2, ⟨v, [v2], rfl, A2.view r1', v2, [], rfl, A2.view r2, rfl⟩, w2, fun d3 v3 g3 H3 ⟨k, ek, w3⟩ x3 A3 r3 => ⟨k, ?_, ?_⟩⟩
    · subst ek
      exact r3
    · have x13 := (x1.trans x2).trans x3
      cases k with
      | false => exact hq _ _ _ _ _ w3 x13 A3 rfl
      | true =>
        refine ⟨g3, st2, _, Xd, A3, w3, fun d4 st4 v4 g4 H4 w4 x4 A4 r4 => @hr' s _ _ _ _ ?_, fun c fs st' cls dd g' H' q x A r => hx c fs st' cls dd g' H' q (x13.trans x) A r⟩
        have r2' := Rep.kp (x4.kp A3.mw) (Rep.kp (x3.kp A2.mw) r2)
        exact ⟨g4, st4, [view st4.h d2, view st4.h d4], _, A4, ⟨v2, [v4], rfl, A4.view r2', v4, [], rfl, A4.view r4, rfl⟩, w4, fun d5 v5 g5 H5 w5 x5 A5 r5 => hq _ _ _ _ _ w5 ((x13.trans x4).trans x5) A5 r5⟩

/-! ### tests -/
def plainT : Expr → Bool
  | .UnaryOp .Not _ _ => false
  | .BoolOp _ _ _ => false
  | .IfExp _ _ _ _ => false
  | .Compare _ _ _ _ => false
  | _ => true
theorem isTrue_of {e : Expr} (h : plainT e = true) (env : Env) (whole : Sem Value) : isTrue e env whole = (do let v ← whole; standAt e.pos; holding [v] (truthy v)) := by
  cases e with
  | UnaryOp op a p => cases op <;> first | rfl | cases h
  | BoolOp _ _ _ => cases h
  | IfExp _ _ _ _ => cases h
  | Compare _ _ _ _ => cases h
  | _ => rfl
theorem st_tru {e : Expr} {t : Ex} (h : SE X ER Wx C e t false) (hp : plainT e = true) : ST X ER Wx C e (.tru t) :=
  ptImp (pt_truth h fun wh => isTrue_of hp _ wh) fun s H Q h => by
    obtain ⟨g, st, Qd, Xd, A, w, hq, hx⟩ := h
    simp only [wT] at w
    exact ⟨g, st, _, Xd, A, w, fun d st1 v g1 H1 ⟨k, hk, w1⟩ x1 A1 r1 => ⟨k, (A1.view r1).tru hk, hq _ _ _ _ w1 x1 A1⟩, hx⟩
theorem rdT_tb {K : Kc} {s : L2.St} {H : Hp} {t : Ex} {Q : Bool → Hp → Prop} (h : rdT K ER Wx (wT C (.tb t)) s H Q) : rdE K ER Wx (wE C t) false s H fun v H' => ∃ k, v = .bl k ∧ Q k H' := by
  obtain ⟨g, st, Qd, Xd, A, w, hq, hx⟩ := h
  simp only [wT] at w
  exact ⟨g, st, _, Xd, A, w, fun d st1 v g1 H1 ⟨k, hk, w1⟩ x1 A1 r1 => ⟨k, by subst hk; exact r1, hq _ _ _ _ w1 x1 A1⟩, hx⟩
theorem st_cmp {op : CmpOp} {o : Op} {r : R2} {a b : Expr} {ta tb : Ex} {pos : Pos} (ho : OpR X (compareOp op) r) (hr : ∀ {s H Q x y}, OpPost (kz X) s o false [x, y] H Q → r x y H Q) (ha : SO X ER Wx C a ta) (hb : SO X ER Wx C b tb) (hm : behindInMarks op b = false) :
    ST X ER Wx C (.Compare a [op] [b] pos) (.tb (.op o [ta, tb])) :=
  ptImp (pt_cmpR ho ha hb hm) fun s H Q h => rdO_mono (rdE_op2 (rdT_tb h)) fun x H1 h1 => rdO_mono h1 fun y H2 h2 => hr h2
theorem st_isN {j : Nat} {p pos : Pos} {a : Expr} {ta : Ex} (h : SE X ER Wx C (.Compare a [.Is] [.Constant .none j p] pos) (.op .isN [ta]) false) (ha : SO X ER Wx C a ta) : ST X ER Wx C (.Compare a [.Is] [.Constant .none j p] pos) (.tb (.op .isN [ta])) :=
  ptImp (pt_cmp (pc_isN ha)) fun s H Q h => rdO_mono (rdE_op1 (rdT_tb h)) fun x H1 h1 => by
    obtain ⟨g, st, ds, Qd, A, r, w, hq⟩ := h1
    obtain ⟨a, rfl, w2⟩ := any1_inv (show any1 ds _ from w)
    obtain ⟨x', e, r1⟩ := r.to1
    cases e
    refine OpPost.plain A hq w2 ?_
    cases a with
    | non => cases (show x = V.non from r1); rfl
    | bl b => cases (show x = V.bl b from r1); rfl
    | int b => cases (show x = V.int b from r1); rfl
    | str b => cases (show x = V.str b from r1); rfl
    | lst b => obtain ⟨_, _, e, _⟩ := r1; cases e; rfl
    | tup b => obtain ⟨_, _, e, _⟩ := r1; cases e; rfl
    | dic b c => obtain ⟨_, _, _, e, _⟩ := r1; cases e; rfl
    | cell l => obtain ⟨_, e⟩ := r1; cases e; rfl
    | scr b => obtain ⟨_, _, e, _⟩ := r1; cases e; rfl
    | obj b c => obtain ⟨_, _, e, _⟩ := r1; cases e; rfl
    | exc b c => exact r1.elim
theorem st_not {a : Expr} {ta : Ex} {pos : Pos} (ha : ST X ER Wx C a ta) : ST X ER Wx C (.UnaryOp .Not a pos) (.tNot ta) :=
  ptImp (pt_not ha) fun s H Q h => by
    obtain ⟨g, st, Qd, Xd, A, w, hq, hx⟩ := h
    simp only [wT] at w
    exact ⟨g, st, _, Xd, A, w, fun k st1 g1 H1 w1 x1 A1 => hq _ _ _ _ w1 x1 A1, hx⟩
/-- a test of and, or: whatever its whole is -/
def SW (X : Cx) (ER : ExT) (Wx : WX) (C : Calls) (e : Expr) (t : Ex) : Prop := PW X e (rdT (kz X) ER Wx (wT C t))
theorem SW.st {e : Expr} {t : Ex} (h : SW X ER Wx C e t) : ST X ER Wx C e t := PW.pt h
theorem sw_and1 {a : Expr} {ta : Ex} {pos : Pos} (ha : ST X ER Wx C a ta) : SW X ER Wx C (.BoolOp .And [a] pos) ta := pw_and1 ha
theorem sw_or1 {a : Expr} {ta : Ex} {pos : Pos} (ha : ST X ER Wx C a ta) : SW X ER Wx C (.BoolOp .Or [a] pos) ta := pw_or1 ha
theorem sw_and {a b : Expr} {rest : List Expr} {ta tb : Ex} {pos : Pos} (ha : ST X ER Wx C a ta) (hb : SW X ER Wx C (.BoolOp .And (b :: rest) pos) tb) : SW X ER Wx C (.BoolOp .And (a :: b :: rest) pos) (.tAnd ta tb) :=
  pwImp (pw_and ha hb) fun s H Q h => by
    obtain ⟨g, st, Qd, Xd, A, w, hq, hx⟩ := h
    simp only [wT] at w
    refine ⟨g, st, _, Xd, A, w, fun k st1 g1 H1 w1 x1 A1 => ?_, hx⟩
    cases k with
    | true => exact rdT_next A1 x1 w1 hq hx
    | false => exact hq _ _ _ _ w1 x1 A1
theorem sw_or {a b : Expr} {rest : List Expr} {ta tb : Ex} {pos : Pos} (ha : ST X ER Wx C a ta) (hb : SW X ER Wx C (.BoolOp .Or (b :: rest) pos) tb) : SW X ER Wx C (.BoolOp .Or (a :: b :: rest) pos) (.tOr ta tb) :=
  pwImp (pw_or ha hb) fun s H Q h => by
    obtain ⟨g, st, Qd, Xd, A, w, hq, hx⟩ := h
    simp only [wT] at w
    refine ⟨g, st, _, Xd, A, w, fun k st1 g1 H1 w1 x1 A1 => ?_, hx⟩
    cases k with
    | true => exact hq _ _ _ _ w1 x1 A1
    | false => exact rdT_next A1 x1 w1 hq hx
end
end Mp
namespace Mp
open PySem PySem.Spec L2

/-- the cells alone -/
def AbsC (K : Kc) (g : Gh) (h : List CO) (H : Hp) : Prop := Abs K g ⟨[], h⟩ [] H
/-- what a function promises: what C says of it -/
def RepC (K : Kc) (g : Gh) (h : List CO) (H : Hp) : Bool → D → V → Prop
  | false, d, v => Rep K g h.length H d v
  | true, d, v => (∃ a, v = .ref a ∧ g.M a ∧ OwR K g h.length H a d ∧ ∀ l, Live h l → g.io l ≠ a) ∨ (scalD d = true ∧ Rep K g h.length H d v)
def spF (K : Kc) (ER : ExT) (C : Calls) (m : Bool) (f np : Nat) : Sp := fun vs H Q E => ∃ (g : Gh) (h : List CO) (ds : List D) (Qd : D → List CO → Prop) (Xd : Nat → List D → List CO → Prop),
  ds.length = np ∧ AbsC K g h H ∧ Reps K g h.length H ds vs ∧ C f ds h Qd Xd ∧
  (∀ d h' v g' H', Qd d h' → Ext g h.length H g' h'.length H' → AbsC K g' h' H' → RepC K g' h' H' m d v → Q v H') ∧
  (∀ c fs h' cls dd g' H', Xd c fs h' → Ext g h.length H g' h'.length H' → AbsC K g' h' H' → ER g' h'.length H' c fs cls dd → E cls dd H')
theorem spF_len {K : Kc} {ER : ExT} {C : Calls} {m : Bool} {f np : Nat} {ps : List Str} (hn : ps.length = np) : ∀ vs H Q E, spF K ER C m f np vs H Q E → vs.length = ps.length := by
  rintro vs H Q E ⟨g, h, ds, Qd, Xd, hl, _, r, _⟩
  rw [r.length, hl, hn]
/-- an exception's record looks at W and the numbers alone -/
def ExOk (ER : ExT) : Prop := ∀ g g' n H c fs cls dd, (∀ a, g'.W a ↔ g.W a) → (∀ l, g'.io l = g.io l) → ER g n H c fs cls dd → ER g' n H c fs cls dd

section
variable {K : Kc} {g : Gh} {st : Stt} {s : L2.St} {H : Hp}
/-- what the callee sees: cells may change, the caller's own containers not -/
def Gh.callee (g : Gh) (h : List CO) : Gh := ⟨g.io, g.W, fun a => ∃ l, Live h l ∧ a = g.io l⟩
def Gh.back (g' : Gh) (e : List Sl) (s : L2.St) : Gh := ⟨g'.io, g'.W, fun a => g'.M a ∨ ∃ i, OwnAt e s i a⟩
theorem CeR.m {n : Nat} {a : Addr} : ∀ {c : CO}, CeR K g n H a c → c ≠ .dead → g.M a
  | .dead, _, h => absurd rfl h
  | .lst _, h, _ => h.1
  | .dic _ _, h, _ => h.1
  | .obj _ _, h, _ => h.1
theorem Abs.live_m (A : Abs K g st s H) {l : Nat} (h : Live st.h l) : g.M (g.io l) := by
  obtain ⟨o, h1, h2⟩ := h
  exact (A.ce l o h1).m h2
theorem Abs.callee (A : Abs K g st s H) : AbsC K (g.callee st.h) st.h H := by
  have k : Kp g st.h.length H (g.callee st.h) st.h.length H := Kp.sameW (fun _ => Iff.rfl) fun _ => rfl
  refine ⟨fun a ⟨l, hl, e⟩ => by subst e; exact A.mw _ (A.live_m hl), A.wt, fun i x e => by simp at e, fun i j a h => ?_, fun i a l h => ?_, fun l o h => ?_, A.cc⟩
  · obtain ⟨⟨d, e⟩, _⟩ := h; simp at e
  · obtain ⟨⟨d, e⟩, _⟩ := h; simp at e
  · by_cases hd : o = .dead
    · subst hd; trivial
    · exact CeR.kp k (fun _ z => z) (fun _ => ⟨l, ⟨o, h, hd⟩, rfl⟩) (A.ce l o h)
/-- the caller's state behind a call -/
theorem Abs.back {g' : Gh} {h' : List CO} {H' : Hp} (A : Abs K g st s H) (x : Ext (g.callee st.h) st.h.length H g' h'.length H') (A' : AbsC K g' h' H') :
    Abs K (g'.back st.e s) ⟨st.e, h'⟩ s H' ∧ Ext g st.h.length H (g'.back st.e s) h'.length H' ∧ ∀ i a, OwnAt st.e s i a → ¬ g'.M a := by
  have ownM : ∀ i a, OwnAt st.e s i a → g.M a := fun i a ⟨⟨d, h1⟩, h2⟩ => by
    obtain ⟨ov, e1, b, e2, m, _⟩ := A.sl i _ h1
    rw [h2] at e1; cases e1; cases e2; exact m
  have ownN : ∀ i a, OwnAt st.e s i a → ¬ (g.callee st.h).M a := fun i a h ⟨l, hl, e⟩ => A.oc i a l h hl e.symm
  have ownH : ∀ i a, OwnAt st.e s i a → ∃ o, H a = some o := fun i a h => A.wt a (A.mw a (ownM i a h))
  have kc : Kp (g.callee st.h) st.h.length H g' h'.length H' := x.kp A.callee.mw
  have k : Kp g st.h.length H (g'.back st.e s) h'.length H' := ⟨kc.keep, kc.io, kc.le⟩
  have k2 : Kp g' h'.length H' (g'.back st.e s) h'.length H' := Kp.sameW (fun _ => Iff.rfl) fun _ => rfl
  refine ⟨⟨fun a m => ?_, A'.wt, fun i z e => ?_, A.oo, fun i a l h hl e => ?_, fun l o e => CeR.kp k2 (fun _ z => z) .inl (A'.ce l o e), A'.cc⟩, ⟨fun a o h m => x.keep a o h ?_, fun a o h m => x.stay a o h ?_, fun a o h m z => ?_, x.io, x.le⟩, fun i a h z => ?_⟩
  · rcases m with m | ⟨i, h⟩
    · exact A'.mw a m
    · obtain ⟨o, ho⟩ := ownH i a h
      exact (x.stay a o ho (ownN i a h)).mpr (A.mw a (ownM i a h))
  · obtain ⟨ov, e1, r⟩ := A.sl i z e
    refine ⟨ov, e1, ?_⟩
    cases z with
    | un => trivial
    | exc c d => exact r.kpE k
    | shr d => obtain ⟨v, e2, r⟩ := r; exact ⟨v, e2, r.kp k⟩
    | own d =>
      obtain ⟨a, e2, m, r⟩ := r
      have ow : OwnAt st.e s i a := ⟨⟨d, e⟩, by rw [e1, e2]⟩
      exact ⟨a, e2, .inr ⟨i, ow⟩, r.kp k fun o ho => x.keep a o ho (ownN i a ow)⟩
  · obtain ⟨o, ho⟩ := ownH i a h
    obtain ⟨o', h1, h2⟩ := hl
    have m' : g'.M (g'.io l) := (A'.ce l o' h1).m h2
    have e' : g'.io l = a := e
    rw [e'] at m'
    exact x.stayM a o ho (ownN i a h) m'
  · exact fun ⟨l, hl, e⟩ => m (by rw [e]; exact A.live_m hl)
  · exact fun ⟨l, hl, e⟩ => m (by rw [e]; exact A.live_m hl)
  · have nc : ¬ (g.callee st.h).M a := fun ⟨l, hl, e⟩ => m (by rw [e]; exact A.live_m hl)
    rcases z with z | ⟨i, z⟩
    · exact x.stayM a o h nc z
    · exact m (ownM i a z)
  · obtain ⟨o, ho⟩ := ownH i a h
    exact x.stayM a o ho (ownN i a h) z
end

/-! ### arguments in the parameters' order -/
def conV : D → Option V
  | .non => some .non
  | .bl b => some (.bl b)
  | .int i => some (.int i)
  | .str x => some (.str x)
  | _ => none
def arrV (ar : List (Sum Nat D)) (vs : List V) : List V := ar.map fun a => match a with
  | .inl i => vs.getD i .non
  | .inr d => (conV d).getD .non
def arOk (n : Nat) (ar : List (Sum Nat D)) : Bool := ar.all fun a => match a with
  | .inl i => decide (i < n)
  | .inr d => (conV d).isSome
theorem Rep.con {K : Kc} {g : Gh} {n : Nat} {H : Hp} {d : D} {v : V} (h : conV d = some v) : Rep K g n H d v := by
  cases d <;> first | (cases h; rfl) | cases h
theorem Reps.arr {K : Kc} {g : Gh} {n : Nat} {H : Hp} {ds : List D} {vs : List V} (r : Reps K g n H ds vs) : ∀ {ar : List (Sum Nat D)}, arOk ds.length ar = true → Reps K g n H (arr ar ds) (arrV ar vs)
  | [], _ => rfl
  | .inl i :: ar, h => by
    have h' : i < ds.length ∧ arOk ds.length ar = true := by simpa [arOk] using h
    have e : ds[i]? = some (ds[i]'h'.1) := List.getElem?_eq_getElem h'.1
    obtain ⟨v, e1, r1⟩ := r.get e
    refine ⟨v, arrV ar vs, ?_, ?_, Reps.arr r h'.2⟩
    · show vs.getD i .non :: arrV ar vs = v :: arrV ar vs
      rw [List.getD_eq_getElem?_getD, e1]
      rfl
    · show Rep K g n H (ds.getD i .non) v
      rw [List.getD_eq_getElem?_getD, e]
      exact r1
  | .inr d :: ar, h => by
    have h' : (conV d).isSome = true ∧ arOk ds.length ar = true := by simpa [arOk] using h
    obtain ⟨v, e⟩ := Option.isSome_iff_exists.mp h'.1
    refine ⟨v, arrV ar vs, ?_, Rep.con e, Reps.arr r h'.2⟩
    show (conV d).getD .non :: arrV ar vs = v :: arrV ar vs
    rw [e]
    rfl

/-! ### keywords -/
theorem kw_names (kws : List Keyword) (pos : Pos) (env : Env) : (backToKw pos (keywordEach kws env)).filterMap (·.1) = kws.filterMap (·.arg) := by
  induction kws with
  | nil => rfl
  | cons k r ih =>
    obtain ⟨a, v, p⟩ := k
    show List.filterMap (·.1) ((a, _) :: backToKw pos (keywordEach r env)) = _
    cases a with
    | none => exact ih
    | some n => exact congrArg (n :: ·) ih
theorem kw_all {kws : List Keyword} (h : kws.all (·.arg.isSome) = true) (pos : Pos) (env : Env) : (backToKw pos (keywordEach kws env)).all (·.1.isSome) = true ∧ (backToKw pos (keywordEach kws env)).any (·.1.isNone) = false := by
  induction kws with
  | nil => exact ⟨rfl, rfl⟩
  | cons k r ih =>
    obtain ⟨a, v, p⟩ := k
    have h' : a.isSome = true ∧ r.all (·.arg.isSome) = true := by simpa only [List.all_cons, Bool.and_eq_true] using h
    obtain ⟨i1, i2⟩ := ih h'.2
    refine ⟨?_, ?_⟩
    · show (a.isSome && (backToKw pos (keywordEach r env)).all (·.1.isSome)) = true
      rw [h'.1, i1]; rfl
    · show (a.isNone || (backToKw pos (keywordEach r env)).any (·.1.isNone)) = false
      rw [i2]
      cases a with
      | none => cases h'.1
      | some _ => rfl

section
variable {X : Cx} {ER : ExT} {Wx : WX} {C : Calls} {m : Bool}
def SK (X : Cx) (ER : ExT) (Wx : WX) (C : Calls) (kws : List Keyword) (ts : List Ex) : Prop := PK X kws (rdL (kz X) ER Wx ts.length (wL C ts))
theorem pkImp {kws : List Keyword} {u u' : TA} (h : PK X kws u) (i : ∀ s H Q, u' s H Q → u s H Q) : PK X kws u' := ⟨fun pos pins s σ H Q I q => h.run pos pins s σ H Q I (i σ H Q q)⟩
theorem sk_nil : SK X ER Wx C [] [] := pkImp pk_nil fun s H Q h => splitL_nil h
theorem sk_cons {nm : Option Str} {e : Expr} {p : Pos} {kws : List Keyword} {t : Ex} {ts : List Ex} (h : SE X ER Wx C e t false) (hs : SK X ER Wx C kws ts) : SK X ER Wx C (⟨nm, e, p⟩ :: kws) (t :: ts) :=
  pkImp (pk_cons h hs) fun s H Q h => splitL_cons h
theorem wL_append : ∀ (ts us : List Ex) (st : Stt) (Q : List D → Stt → Prop) (Z : PX), wL C (ts ++ us) st Q Z = wL C ts st (fun ds st1 => wL C us st1 (fun es st2 => Q (ds ++ es) st2) Z) Z
  | [], us, st, Q, Z => by simp only [List.nil_append, wL]
  | t :: ts, us, st, Q, Z => by
    simp only [List.cons_append, wL]
    congr 1
    funext d st1
    rw [wL_append ts us st1]
theorem splitL_append {ts us : List Ex} {s : L2.St} {H : Hp} {Q : List V → Hp → Prop} {K : Kc} (h : rdL K ER Wx (ts ++ us).length (wL C (ts ++ us)) s H Q) : rdL K ER Wx ts.length (wL C ts) s H fun vs H1 => rdL K ER Wx us.length (wL C us) s H1 fun zs H2 => vs.length = ts.length ∧ zs.length = us.length ∧ Q (vs ++ zs) H2 := by
  obtain ⟨g, st, Qd, Xd, A, w, hq, hx⟩ := h
  rw [wL_append] at w
  refine ⟨g, st, _, Xd, A, w, fun ds st1 vs g1 H1 w1 x1 A1 r1 l1 => ⟨g1, st1, _, Xd, A1, w1, fun es st2 zs g2 H2 w2 x2 A2 r2 l2 => ⟨l1, l2, ?_⟩, fun c fs st2 cls dd g2 H2 q x2 A2 r2 => hx _ _ _ _ _ _ _ q (x1.trans x2) A2 r2⟩, hx⟩
  exact hq _ _ _ _ _ w2 (x1.trans x2) A2 ((r1.kp (x2.kp A1.mw)).append r2) (by rw [List.length_append, List.length_append, l1, l2])
/-- the callee's promise from the call's wish -/
theorem rdE_call {f np : Nat} {ts : List Ex} {ar : List (Sum Nat D)} {s : L2.St} {H : Hp} {Q : VK} {K : Kc} (hE : ExOk ER) (har : arOk ts.length ar = true) (hnp : ar.length = np) (h : rdE K ER Wx (wE C (.call f ts ar)) m s H Q) :
    rdL K ER Wx ts.length (wL C ts) s H fun vs H1 => spF K ER C m f np (arrV ar vs) H1 Q (WE Wx s) := by
  obtain ⟨g, st, Qd, Xd, A, w, hq, hx⟩ := h
  simp only [wE] at w
  refine ⟨g, st, _, Xd, A, w, fun ds st1 vs g1 H1 w1 x1 A1 r1 hl => ?_, hx⟩
  have hl' : ds.length = ts.length := by rw [← r1.length]; exact hl
  have kc : Kp g1 st1.h.length H1 (g1.callee st1.h) st1.h.length H1 := Kp.sameW (fun _ => Iff.rfl) fun _ => rfl
  refine ⟨g1.callee st1.h, st1.h, _, _, _, ?_, A1.callee, (r1.arr (by rw [hl']; exact har)).kp kc, w1, fun d h' v g' H' q x A' r => ?_, fun c fs h' cls dd g' H' q x A' r => ?_⟩
  · show (ar.map _).length = np
    rw [List.length_map, hnp]
  · obtain ⟨A2, x2, no⟩ := A1.back x A'
    have k2 : Kp g' h'.length H' (g'.back st1.e s) h'.length H' := Kp.sameW (fun _ => Iff.rfl) fun _ => rfl
    refine hq _ _ _ _ _ q (x1.trans x2) A2 ?_
    cases m with
    | false => exact Rep.kp k2 r
    | true =>
      rcases r with ⟨a, e, ma, ow, nl⟩ | ⟨sc, r⟩
      · exact .inl ⟨a, e, .inl ma, ow.kp k2 fun _ z => z, fun i z => no i a z ma, nl⟩
      · exact .inr ⟨sc, Rep.kp k2 r⟩
  · obtain ⟨A2, x2, _⟩ := A1.back x A'
    exact hx _ _ _ _ _ _ _ q (x1.trans x2) A2 (hE g' (g'.back st1.e s) _ _ _ _ _ _ (fun _ => Iff.rfl) (fun _ => rfl) r)
/-- how a call's arguments come to the parameters -/
structure Shp (K : PySem.W.Frag) (fd : FuncData) (ps : List Str) (n : Nat) (ks : List Str) (ar : List (Sum Nat D)) : Prop where
  ex : ∃ (gg : List Value → List Value → List Value) (gV : List V → List V → List V), KBn K fd ps n ks gg gV ∧ ∀ vs zs, vs.length = n → zs.length = ks.length → gV vs zs = arrV ar (vs ++ zs)
theorem run_call {CX : CXT} {k n : Nat} {f : Addr} {fd : FuncData} {ps ks : List Str} {sp : Sp} {E : XK} {gg : List Value → List Value → List Value} {gV : List V → List V → List V} {pins : List (Addr × Obj)} {σ : L2.St} {H : Hp} {s : Shared} {Q : VK} {us ws : List Value} {vs zs : List V}
    (F : FnOk X.prog X.w X.K X.mg X.base CX k f fd ps sp) (hr : Room k X.A) (hb : KBn X.K fd ps n ks gg gV) (hx : PassesAt CX X σ E)
    (I : Inv X pins σ H s) (r : Vals vs us) (rz : Vals zs ws) (l1 : vs.length = n) (l2 : zs.length = ks.length) (h : sp (gV vs zs) H Q E) : wpAny (model X.prog X.w) X.A (call (.ref f) us (ks.zip ws)) (EP X pins σ Q) X.xe s := by
  have r2 := hb.rel r rz
  refine wpAny_call (codeAny_mono (F.run X.A X.stack s H ⟨us, ks.zip ws⟩ (gg us ws) (gV vs zs) Q E hr I.env0 (hb.to s us ws I.kIn (r.length.symm.trans l1) (rz.length.symm.trans l2)) r2 h) fun r s' hq => ?_)
  cases r with
  | error e => exact hx pins H s e s' I hq
  | ok fl =>
    cases fl with
    | ret u => exact I.after hq
    | next => exact False.elim hq
    | brk => exact False.elim hq
    | cont => exact False.elim hq
/-- f(.., k = v, ..), f a def of the module -/
theorem se_call {k n np : Nat} {fx : Addr} {fd : FuncData} {ps ks : List Str} {f : Nat} {x : Str} {p pos : Pos} {es : List Expr} {kws : List Keyword} {ts us : List Ex} {ar : List (Sum Nat D)}
    (hcalm : X.calm = true) (F : FnOk X.prog X.w X.K X.mg X.base (L2.CX X.prog X.w) k fx fd ps (spF ⟨X.K, none⟩ ER C m f np)) (hr : Room k X.A) (hg : Gl X x) (hm : X.mg x = some (.ref fx)) (hk : PySem.W.keepIn X.K (.ref fx) = true) (hd : (x == ("__debug__" : Str)) = false)
    (hs : Shp X.K fd ps es.length ks ar) (hks : kws.filterMap (·.arg) = ks) (hkl : kws.length = ks.length) (tk : Takes X Wx) (hE : ExOk ER) (har : arOk (ts ++ us).length ar = true) (hnp : ar.length = np) (hl1 : ts.length = es.length) (hl2 : us.length = kws.length)
    (ha : SL X ER Wx C es ts) (hkw : SK X ER Wx C kws us) (hst : es.all notStar = true) (hka : kws.all (·.arg.isSome) = true) : SE X ER Wx C (.Call (.Name x p) es kws pos) (.call f (ts ++ us) ar) m := by
  have ek : (⟨X.K, none⟩ : Kc) = kz X := by unfold kz; rw [hcalm]; rfl
  rw [ek] at F
  obtain ⟨gg, gV, hb, hgV⟩ := hs.ex
  refine ⟨fun pins s σ H Q I h => ?_⟩
  have h1 := splitL_append (rdE_call hE har hnp h)
  refine wpAny_Call_Name_kw (ld_glob I hg hm ?_ hd)
  obtain ⟨ka, kn⟩ := kw_all hka pos X.env
  have fin : ∀ {vs : List V} {vals : List Value} {s1 : Shared} {H1 : Hp}, Inv X pins σ H1 s1 → Vals vs vals →
      rdL (kz X) ER Wx us.length (wL C us) σ H1 (fun zs H2 => vs.length = ts.length ∧ zs.length = us.length ∧ spF (kz X) ER C m f np (arrV ar (vs ++ zs)) H2 Q (WE Wx σ)) →
      wpAny (model X.prog X.w) X.A (evalAll ((backToKw pos (keywordEach kws X.env)).map (·.2))) (fun ws s2 => X.K.In s2.heap ∧ wpAny (model X.prog X.w) X.A (call (.ref fx) ([] ++ vals) (((backToKw pos (keywordEach kws X.env)).filterMap (·.1)).zip ws)) (EP X pins σ Q) X.xe s2) X.xe s1 := by
    intro vs vals s1 H1 I1 r1 q1
    refine thn (hkw.run pos pins s1 σ H1 _ I1 q1) fun ws s2 ⟨zs, H2, I2, rz, lv, lz, q2⟩ => ⟨I2.kIn, ?_⟩
    rw [kw_names, hks, List.nil_append]
    have lv' : vs.length = es.length := by rw [lv, hl1]
    have lz' : zs.length = ks.length := by rw [lz, hl2, hkl]
    refine run_call F hr hb (passAt tk σ) I2 r1 rz lv' lz' ?_
    rw [hgV vs zs lv' lz']
    exact q2
  cases es with
  | nil =>
    cases ts with
    | cons _ _ => cases hl1
    | nil => exact PySem.W.callWith_KW0 (h₀ := X.base) I.ok.mod.kin hk ka (fin I .nil (splitL_nil h1)) (by rw [kn]; rfl)
  | cons e es =>
    have h' : notStar e = true ∧ es.all notStar = true := by simpa only [List.all_cons, Bool.and_eq_true] using hst
    refine PySem.W.callWith_KW (h₀ := X.base) I.ok.mod.kin hk ka (thn (ha.run pos pins s σ H _ I h1) fun vals s1 ⟨vs, H1, I1, r, q⟩ => fin I1 r q) (by rw [kn, star_any hst]; rfl) (star_of h'.1 _ _)
end
end Mp
namespace Mp
open PySem PySem.Spec L2

section
variable {K : Kc} {g : Gh} {st : Stt} {s : L2.St} {H : Hp}
/-- the address of an own slot, of a cell is held by nobody else -/
theorem Kp.write {n : Nat} {a : Addr} (hw : g.W a) (o : HO) : Kp g n H g n (upd H a o) :=
  ⟨fun b u h w => ⟨by rw [upd_ne (fun e => w (by rw [e]; exact hw))]; exact h, w⟩, fun _ _ => rfl, Nat.le_refl _⟩
theorem Ext.write {n : Nat} {a : Addr} (hm : g.M a) (o : HO) : Ext g n H g n (upd H a o) :=
  ⟨fun b u h m => by rw [upd_ne (fun e => m (by rw [e]; exact hm))]; exact h, fun _ _ _ _ => Iff.rfl, fun _ _ _ m => m, fun _ _ => rfl, Nat.le_refl _⟩
/-- an own list is changed -/
theorem Abs.writeO (A : Abs K g st s H) {i : Nat} {a : Addr} {d d' : D} (hi : st.e[i]? = some (.own d)) (hs : s[i]? = some (some (.ref a))) (o : HO) (hn : OwR K g st.h.length (upd H a o) a d') :
    Abs K g ⟨st.e.set i (.own d'), st.h⟩ s (upd H a o) ∧ Ext g st.h.length H g st.h.length (upd H a o) := by
  obtain ⟨ov, e1, b, e2, m, r⟩ := A.sl i _ hi
  rw [hs] at e1; cases e1; cases e2
  have hw := A.mw a m
  have k : Kp g st.h.length H g st.h.length (upd H a o) := Kp.write hw o
  have hlt : i < st.e.length := by
    rcases Nat.lt_or_ge i st.e.length with h | h
    · exact h
    · rw [List.getElem?_eq_none h] at hi; cases hi
  have ow : OwnAt st.e s i a := ⟨⟨d, hi⟩, hs⟩
  have own_of : ∀ j b, OwnAt (st.e.set i (.own d')) s j b → OwnAt st.e s j b := fun j b ⟨⟨d2, h1⟩, h2⟩ => by
    by_cases hj : j = i
    · subst hj; exact ⟨⟨d, hi⟩, h2⟩
    · rw [List.getElem?_set_ne (Ne.symm hj)] at h1; exact ⟨⟨d2, h1⟩, h2⟩
  refine ⟨⟨A.mw, fun b w => ?_, fun j x h => ?_, fun j j' b h1 h2 => A.oo j j' b (own_of j b h1) (own_of j' b h2), fun j b l h1 h2 => A.oc j b l (own_of j b h1) h2, fun l c h => ?_, A.cc⟩, Ext.write m o⟩
  · by_cases e : b = a
    · subst e; exact ⟨o, upd_same⟩
    · obtain ⟨u, h⟩ := A.wt b w
      exact ⟨u, by rw [upd_ne e]; exact h⟩
  · by_cases hj : j = i
    · subst hj
      rw [List.getElem?_set_self hlt] at h
      cases h
      exact ⟨_, hs, a, rfl, m, hn⟩
    · rw [List.getElem?_set_ne (Ne.symm hj)] at h
      obtain ⟨ov, f1, q⟩ := A.sl j x h
      refine ⟨ov, f1, ?_⟩
      cases x with
      | un => trivial
      | exc c0 d0 => exact SlR.kpE k (by assumption)
      | shr d2 => obtain ⟨v, f2, q⟩ := q; exact ⟨v, f2, q.kp k⟩
      | own d2 =>
        obtain ⟨b, f2, m', q⟩ := q
        have nb : b ≠ a := fun z => hj (A.oo j i b ⟨⟨d2, h⟩, by rw [f1, f2]⟩ (by rw [z]; exact ow))
        exact ⟨b, f2, m', q.kp k fun _ z => by rw [upd_ne nb]; exact z⟩
  · by_cases hd : c = .dead
    · subst hd; trivial
    · exact CeR.kp k (fun _ z => by rw [upd_ne (A.oc i a l ow ⟨c, h, hd⟩)]; exact z) id (A.ce l c h)
/-- a cell is changed -/
theorem Abs.writeC (A : Abs K g st s H) {l : Nat} {c c' : CO} (hl : st.h[l]? = some c) (hd : c ≠ .dead) (hd' : c' ≠ .dead) (o : HO) (hn : CeR K g st.h.length (upd H (g.io l) o) (g.io l) c') :
    Abs K g ⟨st.e, st.h.set l c'⟩ s (upd H (g.io l) o) ∧ Ext g st.h.length H g (st.h.set l c').length (upd H (g.io l) o) := by
  have lv : Live st.h l := ⟨c, hl, hd⟩
  have m := A.live_m lv
  have hw := A.mw _ m
  have el : (st.h.set l c').length = st.h.length := List.length_set
  have k : Kp g st.h.length H g (st.h.set l c').length (upd H (g.io l) o) := by rw [el]; exact Kp.write hw o
  have hlt : l < st.h.length := by
    rcases Nat.lt_or_ge l st.h.length with h | h
    · exact h
    · rw [List.getElem?_eq_none h] at hl; cases hl
  have live_of : ∀ j, Live (st.h.set l c') j → Live st.h j := fun j ⟨o', h1, h2⟩ => by
    by_cases hj : j = l
    · subst hj; exact lv
    · rw [List.getElem?_set_ne (Ne.symm hj)] at h1; exact ⟨o', h1, h2⟩
  refine ⟨⟨A.mw, fun b w => ?_, fun j x h => ?_, A.oo, fun j b i h1 h2 => A.oc j b i h1 (live_of i h2), fun j c2 h => ?_, fun i j h1 h2 => A.cc i j (live_of i h1) (live_of j h2)⟩, by rw [el]; exact Ext.write m o⟩
  · by_cases e : b = g.io l
    · subst e; exact ⟨o, upd_same⟩
    · obtain ⟨u, h⟩ := A.wt b w
      exact ⟨u, by rw [upd_ne e]; exact h⟩
  · obtain ⟨ov, f1, q⟩ := A.sl j x h
    refine ⟨ov, f1, ?_⟩
    cases x with
    | un => trivial
    | exc c0 d0 => exact SlR.kpE k (by assumption)
    | shr d2 => obtain ⟨v, f2, q⟩ := q; exact ⟨v, f2, q.kp k⟩
    | own d2 =>
      obtain ⟨b, f2, m', q⟩ := q
      have nb : b ≠ g.io l := fun z => A.oc j b l ⟨⟨d2, h⟩, by rw [f1, f2]⟩ lv z.symm
      exact ⟨b, f2, m', q.kp k fun _ z => by rw [upd_ne nb]; exact z⟩
  · by_cases hj : j = l
    · subst hj
      have e : (st.h.set j c')[j]? = some c' := List.getElem?_set_self hlt
      have h' : (st.h.set j c')[j]? = some c2 := h
      rw [e] at h'
      cases h'
      show CeR K g (st.h.set j c').length _ _ _
      rw [el]
      exact hn
    · have h' : (st.h.set l c')[j]? = some c2 := h
      rw [List.getElem?_set_ne (Ne.symm hj)] at h'
      by_cases hd2 : c2 = .dead
      · subst hd2; trivial
      · exact CeR.kp k (fun _ z => by rw [upd_ne (fun e => hj (A.cc j l ⟨c2, h', hd2⟩ lv e))]; exact z) id (A.ce j c2 h')
/-- a container that nobody holds becomes a cell -/
theorem Abs.cell (A : Abs K g st s H) {a : Addr} {c : CO} (r : CeR K g st.h.length H a c) (hd : c ≠ .dead) (no : ∀ i, ¬ OwnAt st.e s i a) (nc : ∀ l, Live st.h l → g.io l ≠ a) :
    ∃ g', Abs K g' ⟨st.e, st.h ++ [c]⟩ s H ∧ Ext g st.h.length H g' (st.h ++ [c]).length H ∧ Rep K g' (st.h ++ [c]).length H (.cell st.h.length) (.ref a) ∧ g'.io st.h.length = a ∧ (∀ b, g'.W b ↔ g.W b) ∧ ∀ b, g'.M b ↔ g.M b := by
  have el : (st.h ++ [c]).length = st.h.length + 1 := by simp
  let g' : Gh := ⟨fun l => if l = st.h.length then a else g.io l, g.W, g.M⟩
  have io' : ∀ l, l < st.h.length → g'.io l = g.io l := fun l h => if_neg (Nat.ne_of_lt h)
  have ioN : g'.io st.h.length = a := if_pos rfl
  have k : Kp g st.h.length H g' (st.h ++ [c]).length H := ⟨fun b u h w => ⟨h, w⟩, io', by rw [el]; exact Nat.le_succ _⟩
  have at_of : ∀ (l : Nat) (c' : CO), (st.h ++ [c])[l]? = some c' → (l < st.h.length ∧ st.h[l]? = some c') ∨ (l = st.h.length ∧ c' = c) := fun l c' h => by
    rcases Nat.lt_trichotomy l st.h.length with h1 | h1 | h1
    · rw [List.getElem?_append_left h1] at h; exact .inl ⟨h1, h⟩
    · subst h1
      rw [List.getElem?_append_right (Nat.le_refl _), Nat.sub_self] at h
      exact .inr ⟨rfl, (Option.some.inj h).symm⟩
    · rw [List.getElem?_eq_none (by rw [el]; exact h1)] at h; cases h
  have live_of : ∀ l, Live (st.h ++ [c]) l → (l < st.h.length ∧ Live st.h l) ∨ l = st.h.length := fun l ⟨c', h1, h2⟩ => by
    rcases at_of l c' h1 with ⟨z1, z2⟩ | ⟨z, _⟩
    · exact .inl ⟨z1, c', z2, h2⟩
    · exact .inr z
  refine ⟨g', ⟨A.mw, A.wt, fun j x h => ?_, A.oo, fun j b l h1 h2 e => ?_, fun l c' h => ?_, fun i j h1 h2 e => ?_⟩, ⟨fun _ _ h _ => h, fun _ _ _ _ => Iff.rfl, fun _ _ _ z => z, io', by rw [el]; exact Nat.le_succ _⟩, ⟨by rw [el]; exact Nat.lt_succ_self _, by rw [ioN]⟩, ioN, fun _ => Iff.rfl, fun _ => Iff.rfl⟩
  · obtain ⟨ov, f1, q⟩ := A.sl j x h
    exact ⟨ov, f1, q.kp k fun _ _ m h => ⟨h, m⟩⟩
  · rcases live_of l h2 with ⟨z1, z2⟩ | z
    · rw [io' l z1] at e; exact A.oc j b l h1 z2 e
    · subst z; rw [ioN] at e; subst e; exact no j h1
  · rcases at_of l c' h with ⟨z1, z2⟩ | ⟨z1, z2⟩
    · rw [io' l z1]; exact CeR.kp k (fun _ z => z) id (A.ce l c' z2)
    · subst z1 z2; rw [ioN]; exact CeR.kp k (fun _ z => z) id r
  · rcases live_of i h1 with ⟨a1, a2⟩ | a1 <;> rcases live_of j h2 with ⟨b1, b2⟩ | b1
    · rw [io' i a1, io' j b1] at e; exact A.cc i j a2 b2 e
    · subst b1; rw [io' i a1, ioN] at e; exact absurd e (nc i a2)
    · subst a1; rw [io' j b1, ioN] at e; exact absurd e.symm (nc j b2)
    · rw [a1, b1]
/-- a new object that is protected: nobody may know of it, nobody may change it -/
def Gh.hold (g : Gh) (p : Addr) : Gh := ⟨g.io, fun a => a = p ∨ g.W a, g.M⟩
def Gh.free (g : Gh) (p : Addr) : Gh := ⟨g.io, fun a => a ≠ p ∧ g.W a, g.M⟩
theorem Abs.hold (A : Abs K g st s H) {p : Addr} (hp : H p = none) (o : HO) : Abs K (g.hold p) st s (upd H p o) ∧ Ext g st.h.length H (g.hold p) st.h.length (upd H p o) := by
  have ke : ∀ a u, H a = some u → upd H p o a = some u := fun a u h => by rw [upd_ne (ne_of_none h hp)]; exact h
  have k : Kp g st.h.length H (g.hold p) st.h.length (upd H p o) := ⟨fun a u h w => ⟨ke a u h, fun z => z.elim (ne_of_none h hp) w⟩, fun _ _ => rfl, Nat.le_refl _⟩
  refine ⟨⟨fun a m => .inr (A.mw a m), fun a w => ?_, fun i x e => ?_, A.oo, A.oc, fun l c e => CeR.kp k (ke _) id (A.ce l c e), A.cc⟩,
    ⟨fun a u h _ => ke a u h, fun a u h _ => ⟨fun z => z.elim (fun e => absurd e (ne_of_none h hp)) id, .inr⟩, fun a u h m => m, fun _ _ => rfl, Nat.le_refl _⟩⟩
  · rcases w with e | w
    · subst e; exact ⟨o, upd_same⟩
    · obtain ⟨u, h⟩ := A.wt a w
      exact ⟨u, ke a u h⟩
  · obtain ⟨ov, e1, r⟩ := A.sl i x e
    refine ⟨ov, e1, ?_⟩
    cases x with
    | un => trivial
    | exc c0 d0 => exact SlR.kpE k (by assumption)
    | shr d => obtain ⟨v, e2, r⟩ := r; exact ⟨v, e2, r.kp k⟩
    | own d => obtain ⟨a, e2, m, r⟩ := r; exact ⟨a, e2, m, r.kp k (ke a)⟩
/-- .. filled and given free -/
theorem Abs.release (A : Abs K g st s H) {p : Addr} (hw : g.W p) (hm : ¬ g.M p) (o : HO) : Abs K (g.free p) st s (upd H p o) ∧ (∀ d v, Rep K g st.h.length H d v → Rep K (g.free p) st.h.length (upd H p o) d v) := by
  have k : Kp g st.h.length H (g.free p) st.h.length (upd H p o) := ⟨fun a u h w => ⟨by rw [upd_ne (fun e => w (by rw [e]; exact hw))]; exact h, fun z => w z.2⟩, fun _ _ => rfl, Nat.le_refl _⟩
  have nm : ∀ a, g.M a → a ≠ p := fun a h e => hm (by rw [← e]; exact h)
  refine ⟨⟨fun a m => ⟨nm a m, A.mw a m⟩, fun a w => ?_, fun i x e => ?_, A.oo, A.oc, fun l c e => ?_, A.cc⟩, fun d v r => r.kp k⟩
  · obtain ⟨u, h⟩ := A.wt a w.2
    exact ⟨u, by rw [upd_ne w.1]; exact h⟩
  · obtain ⟨ov, e1, r⟩ := A.sl i x e
    refine ⟨ov, e1, ?_⟩
    cases x with
    | un => trivial
    | exc c0 d0 => exact SlR.kpE k (by assumption)
    | shr d => obtain ⟨v, e2, r⟩ := r; exact ⟨v, e2, r.kp k⟩
    | own d => obtain ⟨a, e2, m, r⟩ := r; exact ⟨a, e2, m, r.kp k fun u z => by rw [upd_ne (nm a m)]; exact z⟩
  · by_cases hd : c = .dead
    · subst hd; trivial
    · have m := (A.ce l c e).m hd
      exact CeR.kp k (fun u z => by rw [show upd H p o ((g.free p).io l) = H ((g.free p).io l) from upd_ne (nm _ m)]; exact z) id (A.ce l c e)
end

def baseOk : Expr → Bool
  | .Call (.Name _ _) [] [] _ => false
  | _ => true
theorem base_of {o : Expr} (h : baseOk o = true) (name : Str) (env : Env) (whole : Sem Value) : attributeBase o name env whole = whole := by
  unfold attributeBase
  split
  · cases h
  · rfl
theorem few_of {args : List Expr} (h : args.all notStar = true) (h2 : args.length < 30) (pos : Pos) (env : Env) : ((backTo pos (starEach args env)).all (fun x => !x.1) && (backToKw pos (keywordEach [] env)).all (fun x => x.1.isSome)
      && decide (args.length + ([] : List Keyword).length + (if ([] : List Keyword).isEmpty then 0 else 1) < 30)) = true := by
  have e1 : (backTo pos (starEach args env)).all (fun x => !x.1) = true := by
    have := star_any h pos env
    rw [List.all_eq_not_any_not]
    simpa using this
  rw [e1]
  have e2 : args.length + ([] : List Keyword).length + (if ([] : List Keyword).isEmpty then 0 else 1) < 30 := by simpa using h2
  rw [decide_eq_true e2]
  rfl

section
variable {X : Cx} {ER : ExT} {Wx : WX} {C : Calls} {m : Bool}
theorem se_cel {e : Expr} {t : Ex} (h : SE X ER Wx C e t true) : SE X ER Wx C e (.cel t) false :=
  peImp h fun s H Q h => by
    obtain ⟨g, st, Qd, Xd, A, w, hq, hx⟩ := h
    simp only [wE] at w
    refine ⟨g, st, _, Xd, A, w, fun d st1 v g1 H1 w1 x1 A1 r1 => ?_, hx⟩
    rcases r1 with ⟨a, rfl, m1, r, no, nc⟩ | ⟨sc, r⟩
    · split at w1
      · obtain ⟨g2, A2, x2, r2, _⟩ := A1.cell (c := .lst _) ⟨m1, r⟩ (by intro z; cases z) no nc
        exact hq _ _ _ _ _ w1 (x1.trans x2) A2 r2
      · obtain ⟨g2, A2, x2, r2, _⟩ := A1.cell (c := .dic _ _) ⟨m1, r⟩ (by intro z; cases z) no nc
        exact hq _ _ _ _ _ w1 (x1.trans x2) A2 r2
      · cases d <;> first | exact r.elim | cases w1.1
    · split at w1
      · cases sc
      · cases sc
      · exact hq _ _ _ _ _ w1.2 x1 A1 r
theorem popAt_inv {ds : List D} {k : Int} {x : D} {r : List D} (h : popAt ds k = some (x, r)) : ∃ j, ixN ds.length k = some j ∧ ds[j]? = some x ∧ r = ds.eraseIdx j := by
  unfold popAt at h
  cases q : ixN ds.length k with
  | none => rw [q] at h; cases h
  | some j =>
    rw [q] at h
    have h' : ((ds[j]?).map fun d => (d, ds.eraseIdx j)) = some (x, r) := h
    cases q2 : ds[j]? with
    | none => rw [q2] at h'; cases h'
    | some y => rw [q2] at h'; cases h'; exact ⟨j, rfl, q2, rfl⟩
/-- xs.pop(e), xs an own list -/
theorem se_pop {i : Nat} {x : Str} {e : Expr} {t : Ex} {np apos pos : Pos} (hN : X.N[i]? = some x) (hv : Vis X.env.scope x) (hd : (x == ("__debug__" : Str)) = false) (hcd : (x == ("__classdict__" : Str)) = false) (he : SE X ER Wx C e t false) (hs : notStar e = true) (hl : (apos.endLine == pos.line) = true) :
    SE X ER Wx C (.Call (.Attribute (.Name x np) "pop" apos) [e] [] pos) (.pop i t) false := by
  have hst : ([e] : List Expr).all notStar = true := by simp [hs]
  refine peImp (pe_bm PySem.F.plainAttrs_list PySem.F.slot_list_pop PySem.F.type_list_pop mt_popAt (pe_var hN hv hd hcd) (pa_cons he pa_nil (star_of hs _ _)) (base_of rfl _ _ _) (few_of hst (by simp) _ _) hl (star_of hs _ _) rfl) fun s H Q h => ?_
  obtain ⟨g, st, Qd, Xd, A, w, hq, hx⟩ := h
  simp only [wE] at w
  obtain ⟨⟨ds0, hsl⟩, w⟩ := w
  obtain ⟨ov, e1, a, e2, m1, r⟩ := A.sl i _ hsl
  obtain ⟨vs0, hv0, _⟩ := r
  refine ⟨.ref a, by rw [e1, e2], .inl ⟨rfl, vs0, SqL.of hv0⟩, ?_⟩
  refine ⟨g, st, _, Xd, A, w, fun d st1 v g1 H1 w1 x1 A1 r1 => ?_, hx⟩
  split at w1
  · rename_i k ds hi
    obtain ⟨hz0, y, rr, hp, w2⟩ := w1
    obtain ⟨j, h1, h2, h3⟩ := popAt_inv hp
    subst h3
    obtain ⟨ov', f1, b, f2, m2, r2⟩ := A1.sl i _ hi
    rw [e1, e2] at f1
    cases f1
    cases f2
    obtain ⟨vs, hvs, rvs⟩ := r2
    obtain ⟨z, hz, rz⟩ := rvs.get h2
    have ln := rvs.length
    obtain ⟨q1, q2, q3, q4⟩ := ixN_seq h1
    rw [sizeLine_eq] at hz0
    refine ⟨a, vs, k, j, z, rfl, by rw [show v = V.int k from r1], hvs, ?_, ?_, by rw [ln]; exact q1, hz, ?_⟩
    · omega
    · omega
    · obtain ⟨A2, x2⟩ := A1.writeO (d' := .lst (ds.eraseIdx j)) hi (by rw [e1, e2]) (.lst (vs.eraseIdx j)) ⟨_, upd_same, (rvs.erase j).kp (Kp.write (A1.mw a m2) _)⟩
      exact hq _ _ _ _ _ w2 (x1.trans x2) A2 (rz.kp (Kp.write (A1.mw a m2) _))
  · exact w1.elim
end
end Mp
namespace Mp
open PySem PySem.Spec L2

section
variable {K : Kc} {g g' : Gh} {st : Stt} {s : L2.St} {H H' : Hp} {n n' : Nat}
theorem lt_of_get {α : Type} {l : List α} {i : Nat} {x : α} (h : l[i]? = some x) : i < l.length := by
  rcases Nat.lt_or_ge i l.length with h1 | h1
  · exact h1
  · rw [List.getElem?_eq_none h1] at h; cases h
/-- an object that is protected changes, or is given free -/
theorem Abs.chg (A : Abs K g st s H) {p : Addr} (hw : g.W p) (hm : ¬ g.M p) {g2 : Gh} {H2 : Hp} (hH : ∀ a, a ≠ p → H2 a = H a) (hW : ∀ a, a ≠ p → (g2.W a ↔ g.W a)) (hM : ∀ a, a ≠ p → (g2.M a ↔ g.M a)) (hio : ∀ l, g2.io l = g.io l)
    (h1 : g2.M p → g2.W p) (h2 : g2.W p → ∃ o, H2 p = some o) : Abs K g2 st s H2 ∧ Kp g st.h.length H g2 st.h.length H2 := by
  have k : Kp g st.h.length H g2 st.h.length H2 := ⟨fun a u h w => by
    have ne : a ≠ p := fun e => w (by rw [e]; exact hw)
    exact ⟨by rw [hH a ne]; exact h, fun z => w ((hW a ne).mp z)⟩, fun l _ => hio l, Nat.le_refl _⟩
  have nm : ∀ a, g.M a → a ≠ p := fun a h e => hm (by rw [← e]; exact h)
  refine ⟨⟨fun a m => ?_, fun a w => ?_, fun i x e => ?_, A.oo, fun i a l h1 h2 => by rw [hio l]; exact A.oc i a l h1 h2, fun l c e => ?_, fun l m h1 h2 => by rw [hio l, hio m]; exact A.cc l m h1 h2⟩, k⟩
  · by_cases e : a = p
    · subst e; exact h1 m
    · exact (hW a e).mpr (A.mw a ((hM a e).mp m))
  · by_cases e : a = p
    · subst e; exact h2 w
    · rw [hH a e]; exact A.wt a ((hW a e).mp w)
  · obtain ⟨ov, e1, r⟩ := A.sl i x e
    refine ⟨ov, e1, ?_⟩
    cases x with
    | un => trivial
    | exc c0 d0 => exact SlR.kpE k (by assumption)
    | shr d => obtain ⟨v, e2, r⟩ := r; exact ⟨v, e2, r.kp k⟩
    | own d => obtain ⟨a, e2, m, r⟩ := r; exact ⟨a, e2, (hM a (nm a m)).mpr m, r.kp k fun u z => by rw [hH a (nm a m)]; exact z⟩
  · by_cases hd : c = .dead
    · subst hd; trivial
    · have m := (A.ce l c e).m hd
      rw [hio l]
      exact CeR.kp k (fun u z => by rw [hH _ (nm _ m)]; exact z) (hM _ (nm _ m)).mpr (A.ce l c e)
theorem Ext.chg {g2 : Gh} {H2 : Hp} (x : Ext g n H g' n' H') {p : Addr} (hp : H p = none) (hH : ∀ a, a ≠ p → H2 a = H' a) (hW : ∀ a, a ≠ p → (g2.W a ↔ g'.W a)) (hM : ∀ a, a ≠ p → (g2.M a ↔ g'.M a)) (hio : ∀ l, g2.io l = g'.io l) : Ext g n H g2 n' H2 :=
  ⟨fun a o h m => by rw [hH a (ne_of_none h hp)]; exact x.keep a o h m, fun a o h m => (hW a (ne_of_none h hp)).trans (x.stay a o h m), fun a o h m z => x.stayM a o h m ((hM a (ne_of_none h hp)).mp z), fun l h => (hio l).trans (x.io l h), x.le⟩
theorem Kp.refl : Kp g n H g n H := ⟨fun _ _ h w => ⟨h, w⟩, fun _ _ => rfl, Nat.le_refl _⟩
theorem Kp.trans {g2 : Gh} {n2 : Nat} {H2 : Hp} (a : Kp g n H g' n' H') (b : Kp g' n' H' g2 n2 H2) : Kp g n H g2 n2 H2 :=
  ⟨fun c o h w => b.keep c o (a.keep c o h w).1 (a.keep c o h w).2, fun l h => (b.io l (Nat.lt_of_lt_of_le h a.le)).trans (a.io l h), Nat.le_trans a.le b.le⟩

/-! ### slots -/
theorem Abs.setS (A : Abs K g st s H) {i : Nat} {d : D} {v : V} (r : Rep K g st.h.length H d v) : Abs K g ⟨st.e.set i (.shr d), st.h⟩ (s.set i (some v)) H := by
  have own_of : ∀ j b, OwnAt (st.e.set i (.shr d)) (s.set i (some v)) j b → OwnAt st.e s j b := fun j b ⟨⟨d2, h1⟩, h2⟩ => by
    by_cases hj : j = i
    · subst hj
      have hl : j < st.e.length := by simpa using lt_of_get h1
      rw [List.getElem?_set_self hl] at h1; cases h1
    · rw [List.getElem?_set_ne (Ne.symm hj)] at h1 h2; exact ⟨⟨d2, h1⟩, h2⟩
  refine ⟨A.mw, A.wt, fun j x h => ?_, fun j j' b h1 h2 => A.oo j j' b (own_of j b h1) (own_of j' b h2), fun j b l h1 h2 => A.oc j b l (own_of j b h1) h2, A.ce, A.cc⟩
  by_cases hj : j = i
  · subst hj
    have hl : j < st.e.length := by simpa using lt_of_get h
    rw [List.getElem?_set_self hl] at h
    cases h
    obtain ⟨ov, e1, _⟩ := A.sl j _ (List.getElem?_eq_getElem hl)
    exact ⟨_, List.getElem?_set_self (lt_of_get e1), v, rfl, r⟩
  · have h' : (st.e.set i (.shr d))[j]? = some x := h
    rw [List.getElem?_set_ne (Ne.symm hj)] at h'
    obtain ⟨ov, e1, q⟩ := A.sl j x h'
    exact ⟨ov, by rw [List.getElem?_set_ne (Ne.symm hj)]; exact e1, q⟩
theorem Abs.setO (A : Abs K g st s H) {i : Nat} {d : D} {v : V} (r : RepM K g st s H true d v) : Abs K g ⟨st.e.set i (ownS d), st.h⟩ (s.set i (some v)) H := by
  rcases r with ⟨a, rfl, m, ow, no, nc⟩ | ⟨sc, r⟩
  case inr => unfold ownS; rw [if_pos sc]; exact A.setS r
  have eo : ownS d = .own d := by
    unfold ownS
    cases d <;> first | exact ow.elim | rfl
  rw [eo]
  have own_of : ∀ j b, OwnAt (st.e.set i (.own d)) (s.set i (some (.ref a))) j b → (j ≠ i ∧ OwnAt st.e s j b) ∨ (j = i ∧ b = a) := fun j b ⟨⟨d2, h1⟩, h2⟩ => by
    by_cases hj : j = i
    · subst hj
      have hl : j < s.length := by simpa using lt_of_get h2
      rw [List.getElem?_set_self hl] at h2; cases h2; exact .inr ⟨rfl, rfl⟩
    · rw [List.getElem?_set_ne (Ne.symm hj)] at h1 h2; exact .inl ⟨hj, ⟨d2, h1⟩, h2⟩
  refine ⟨A.mw, A.wt, fun j x h => ?_, fun j j' b h1 h2 => ?_, fun j b l h1 h2 => ?_, A.ce, A.cc⟩
  · by_cases hj : j = i
    · subst hj
      have hl : j < st.e.length := by simpa using lt_of_get h
      rw [List.getElem?_set_self hl] at h
      cases h
      obtain ⟨ov, e1, _⟩ := A.sl j _ (List.getElem?_eq_getElem hl)
      exact ⟨_, List.getElem?_set_self (lt_of_get e1), a, rfl, m, ow⟩
    · have h' : (st.e.set i (.own d))[j]? = some x := h
      rw [List.getElem?_set_ne (Ne.symm hj)] at h'
      obtain ⟨ov, e1, q⟩ := A.sl j x h'
      exact ⟨ov, by rw [List.getElem?_set_ne (Ne.symm hj)]; exact e1, q⟩
  · rcases own_of j b h1 with ⟨a1, a2⟩ | ⟨a1, a2⟩ <;> rcases own_of j' b h2 with ⟨b1, b2⟩ | ⟨b1, b2⟩
    · exact A.oo j j' b a2 b2
    · subst b2; exact absurd a2 (no j)
    · subst a2; exact absurd b2 (no j')
    · rw [a1, b1]
  · rcases own_of j b h1 with ⟨a1, a2⟩ | ⟨a1, a2⟩
    · exact A.oc j b l a2 h2
    · subst a2; exact nc l h2

/-! ### the slots of a block -/
theorem wipe_set {σ : L2.St} {i : Nat} {x : Option V} : ∀ {vs : List Nat}, i ∈ vs → wipe (σ.set i x) vs = wipe σ vs
  | v :: vs, h => by
    unfold wipe
    by_cases hv : i ∈ vs
    · rw [wipe_set hv]
    · have e : i = v := by
        rcases List.mem_cons.mp h with e | e
        · exact e
        · exact absurd e hv
      subst e
      apply List.ext_getElem?
      intro j
      by_cases hj : i = j
      · subst hj
        simp only [List.getElem?_set, if_true, wipe_length, List.length_set]
      · rw [List.getElem?_set_ne hj, List.getElem?_set_ne hj]
        by_cases hk : j ∈ vs
        · exact wipe_in hk
        · rw [wipe_out hk, wipe_out hk, List.getElem?_set_ne hj]
where
  wipe_in {σ : L2.St} {j : Nat} : ∀ {vs : List Nat}, j ∈ vs → (wipe (σ.set i x) vs)[j]? = (wipe σ vs)[j]?
  | v :: vs, h => by
    unfold wipe
    by_cases hv : v = j
    · subst hv
      simp only [List.getElem?_set, if_true, wipe_length, List.length_set]
    · rw [List.getElem?_set_ne hv, List.getElem?_set_ne hv]
      rcases List.mem_cons.mp h with e | e
      · exact absurd e.symm hv
      · exact wipe_in e
theorem hide_get {e : List Sl} {i : Nat} {x : Sl} : ∀ {own : List Nat}, (hide e own)[i]? = some x → x = .un ∨ (e[i]? = some x ∧ i ∉ own)
  | [], h => .inr ⟨h, by simp⟩
  | j :: r, h => by
    unfold hide at h
    by_cases hj : j = i
    · subst hj
      have hl : j < (hide e r).length := by simpa using lt_of_get h
      rw [List.getElem?_set_self hl] at h
      cases h; exact .inl rfl
    · rw [List.getElem?_set_ne hj] at h
      rcases hide_get h with z | ⟨z1, z2⟩
      · exact .inl z
      · exact .inr ⟨z1, by simp only [List.mem_cons, not_or]; exact ⟨fun e => hj e.symm, z2⟩⟩
theorem hide_length {e : List Sl} : ∀ (own : List Nat), (hide e own).length = e.length
  | [] => rfl
  | j :: r => by unfold hide; rw [List.length_set, hide_length r]
theorem unhide_length {e0 e : List Sl} : ∀ (own : List Nat), (unhide e0 e own).length = e.length
  | [] => rfl
  | j :: r => by unfold unhide; rw [List.length_set, unhide_length r]
theorem Abs.hide (A : Abs K g st s H) (own : List Nat) : Abs K g ⟨hide st.e own, st.h⟩ (wipe s own) H := by
  have own_of : ∀ j b, OwnAt (Mp.hide st.e own) (wipe s own) j b → OwnAt st.e s j b := fun j b ⟨⟨d2, h1⟩, h2⟩ => by
    rcases hide_get h1 with z | ⟨z1, z2⟩
    · cases z
    · rw [wipe_out z2] at h2; exact ⟨⟨d2, z1⟩, h2⟩
  refine ⟨A.mw, A.wt, fun j x h => ?_, fun j j' b h1 h2 => A.oo j j' b (own_of j b h1) (own_of j' b h2), fun j b l h1 h2 => A.oc j b l (own_of j b h1) h2, A.ce, A.cc⟩
  rcases hide_get h with z | ⟨z1, z2⟩
  · subst z
    have hl : j < st.e.length := by have := lt_of_get h; rwa [show (Mp.hide st.e own).length = _ from hide_length own] at this
    obtain ⟨ov, e1, _⟩ := A.sl j _ (List.getElem?_eq_getElem hl)
    have hl2 : j < (wipe s own).length := by rw [wipe_length]; exact lt_of_get e1
    exact ⟨_, List.getElem?_eq_getElem hl2, trivial⟩
  · obtain ⟨ov, e1, q⟩ := A.sl j x z1
    exact ⟨ov, by rw [wipe_out z2]; exact e1, q⟩
theorem unhide_get {e0 e : List Sl} {i : Nat} {x : Sl} : ∀ {own : List Nat}, (unhide e0 e own)[i]? = some x → x = .un ∨ (∃ d, x = .shr d ∧ e0[i]? = some x) ∨ (e[i]? = some x ∧ i ∉ own)
  | [], h => .inr (.inr ⟨h, by simp⟩)
  | j :: r, h => by
    unfold unhide at h
    by_cases hj : j = i
    · subst hj
      have hl : j < (unhide e0 e r).length := by simpa using lt_of_get h
      rw [List.getElem?_set_self hl] at h
      cases q : e0[j]? with
      | none => rw [q] at h; cases h; exact .inl rfl
      | some y =>
        rw [q] at h
        cases y with
        | un => cases h; exact .inl rfl
        | exc c0 d0 => cases h; exact .inl rfl
        | shr d => cases h; exact .inr (.inl ⟨d, rfl, rfl⟩)
        | own d => cases h; exact .inl rfl
    · rw [List.getElem?_set_ne hj] at h
      rcases unhide_get h with z | z | ⟨z1, z2⟩
      · exact .inl z
      · exact .inr (.inl z)
      · exact .inr (.inr ⟨z1, by simp only [List.mem_cons, not_or]; exact ⟨fun e => hj e.symm, z2⟩⟩)
theorem Abs.unhide {st0 : Stt} {g0 : Gh} {H0 : Hp} {own : List Nat} (A0 : Abs K g0 st0 s H0) (k : Kp g0 st0.h.length H0 g st.h.length H) (A : Abs K g st (wipe s own) H) : Abs K g ⟨unhide st0.e st.e own, st.h⟩ s H := by
  have own_of : ∀ j b, OwnAt (Mp.unhide st0.e st.e own) s j b → OwnAt st.e (wipe s own) j b := fun j b ⟨⟨d2, h1⟩, h2⟩ => by
    rcases unhide_get h1 with z | ⟨d, z, _⟩ | ⟨z1, z2⟩
    · cases z
    · cases z
    · exact ⟨⟨d2, z1⟩, by rw [wipe_out z2]; exact h2⟩
  refine ⟨A.mw, A.wt, fun j x h => ?_, fun j j' b h1 h2 => A.oo j j' b (own_of j b h1) (own_of j' b h2), fun j b l h1 h2 => A.oc j b l (own_of j b h1) h2, A.ce, A.cc⟩
  rcases unhide_get h with z | ⟨d, z, z1⟩ | ⟨z1, z2⟩
  · subst z
    have hl : j < st.e.length := by have := lt_of_get h; rwa [show (Mp.unhide st0.e st.e own).length = _ from unhide_length own] at this
    obtain ⟨ov, e1, _⟩ := A.sl j _ (List.getElem?_eq_getElem hl)
    have hl2 : j < s.length := by have := lt_of_get e1; rwa [wipe_length] at this
    exact ⟨_, List.getElem?_eq_getElem hl2, trivial⟩
  · subst z
    obtain ⟨ov, e1, v, e2, q⟩ := A0.sl j _ z1
    exact ⟨ov, e1, v, e2, q.kp k⟩
  · obtain ⟨ov, e1, q⟩ := A.sl j x z1
    exact ⟨ov, by rw [wipe_out z2] at e1; exact e1, q⟩
end

/-! ### targets -/
def rdG (K : Kc) (tg : Tg) : TG := fun v s H Q => ∃ (g : Gh) (st : Stt) (d : D) (e' : List Sl), Abs K g st s H ∧ Rep K g st.h.length H d v ∧ tgS tg d st.e = some e' ∧
  ∀ s', Abs K g ⟨e', st.h⟩ s' H → (∀ vs : List Nat, (∀ i ∈ tgI tg, i ∈ vs) → wipe s' vs = wipe s vs) → Q s' H
def rdGs (K : Kc) (tgs : List Tg) : TGs := fun vs s H Q => ∃ (g : Gh) (st : Stt) (ds : List D) (e' : List Sl), Abs K g st s H ∧ Reps K g st.h.length H ds vs ∧ tgSs tgs ds st.e = some e' ∧
  ∀ s', Abs K g ⟨e', st.h⟩ s' H → (∀ ws : List Nat, (∀ i ∈ tgIs tgs, i ∈ ws) → wipe s' ws = wipe s ws) → Q s' H
def SG (X : Cx) (e : Expr) (tg : Tg) : Prop := PG X e (rdG (kz X) tg)
def SGs (X : Cx) (es : List Expr) (tgs : List Tg) : Prop := PGs X es (rdGs (kz X) tgs)
section
variable {X : Cx}
theorem pgImp {e : Expr} {t t' : TG} (h : PG X e t) (i : ∀ v s H Q, t' v s H Q → t v s H Q) : PG X e t' := ⟨fun pins s σ H v u Q I r q => h.run pins s σ H v u Q I r (i v σ H Q q)⟩
theorem pgsImp {e : List Expr} {t t' : TGs} (h : PGs X e t) (i : ∀ v s H Q, t' v s H Q → t v s H Q) : PGs X e t' := ⟨fun pins s σ H v u Q I r q => h.run pins s σ H v u Q I r (i v σ H Q q)⟩
theorem sg_nm {i : Nat} {x : Str} {pos : Pos} (hN : X.N.Nodup) (hi : X.N[i]? = some x) (hx : Loc X.env.scope x) (hf : X.fn x = true ∨ X.env.scope.names.lookup x = some .local) : SG X (.Name x pos) (.nm i) :=
  pgImp (pg_name hN hi hx hf) fun v s H Q ⟨g, st, d, e', A, r, e, q⟩ => by
    have e2 : some (st.e.set i (.shr d)) = some e' := by simpa only [tgS] using e
    cases e2
    exact q _ (A.setS r) fun vs h => wipe_set (h i (by simp [tgI]))
theorem sgs_nil : SGs X [] [] :=
  pgsImp pgs_nil fun vs s H Q ⟨g, st, ds, e', A, r, e, q⟩ => by
    cases ds with
    | cons d ds => simp only [tgSs] at e; cases e
    | nil =>
      cases (show vs = [] from r)
      simp only [tgSs] at e
      cases e
      exact ⟨rfl, q s A fun _ _ => rfl⟩
theorem sgs_cons {e : Expr} {es : List Expr} {t : Tg} {ts : List Tg} (h : SG X e t) (hs : SGs X es ts) (hst : (assignEach (e :: es) X.env).map (·.2) = assign e X.env :: (assignEach es X.env).map (·.2)) : SGs X (e :: es) (t :: ts) :=
  pgsImp (pgs_cons h hs hst) fun vs s H Q ⟨g, st, ds, e', A, r, e, q⟩ => by
    cases ds with
    | nil => simp only [tgSs] at e; cases e
    | cons d ds =>
      obtain ⟨v, vr, rfl, r1, r2⟩ := r
      simp only [tgSs] at e
      cases z : tgS t d st.e with
      | none => rw [z] at e; cases e
      | some e1 =>
        rw [z] at e
        refine ⟨v, vr, rfl, g, st, d, e1, A, r1, z, fun s1 A1 w1 => ⟨g, _, ds, e', A1, r2, e, fun s2 A2 w2 => q s2 A2 fun ws hw => ?_⟩⟩
        rw [w2 ws fun i hi => hw i (by simp only [tgIs, List.mem_append]; exact .inr hi), w1 ws fun i hi => hw i (by simp only [tgIs, List.mem_append]; exact .inl hi)]
theorem sg_tp {es : List Expr} {k : Nat} {ts : List Tg} {pos : Pos} (hc : X.calm = true) (h : SGs X es ts) (hn : (assignEach es X.env).length = ts.length) (hst : (assignEach es X.env).findIdx? (·.1) = none) : SG X (.Tuple es k pos) (.tp ts) :=
  pgImp (pg_tup hc h hn hst) fun v s H Q ⟨g, st, d, e', A, r, e, q⟩ => by
    cases d with
    | tup ds =>
      obtain ⟨a, vs, rfl, h1, r⟩ := r
      have e1 : tgSs ts ds st.e = some e' := by simpa only [tgS] using e
      have hl : ∀ (ts : List Tg) (ds : List D) (e0 e1 : List Sl), tgSs ts ds e0 = some e1 → ds.length = ts.length := by
        intro ts
        induction ts with
        | nil => intro ds e0 e1 h; cases ds with
          | nil => rfl
          | cons _ _ => simp only [tgSs] at h; cases h
        | cons t ts ih => intro ds e0 e1 h; cases ds with
          | nil => simp only [tgSs] at h; cases h
          | cons d ds =>
            simp only [tgSs] at h
            cases z : tgS t d e0 with
            | none => rw [z] at h; cases h
            | some e2 => rw [z] at h; rw [List.length_cons, List.length_cons, ih ds e2 e1 h]
      refine ⟨a, vs, rfl, h1.sq, by rw [r.length, hl _ _ _ _ e1], g, st, ds, e', A, r, e1, fun s' A' w => q s' A' fun ws hw => w ws fun i hi => hw i (by simpa only [tgI] using hi)⟩
    | _ => simp only [tgS] at e; cases e
end

/-! ### what is walked -/
def ItOk (K : Kc) (g : Gh) (n : Nat) (H : Hp) (J : It) (items : List D) : Prop := ∀ g' n' H', Kp g n H g' n' H' → ∀ i,
  (∀ x, items[i]? = some x → J.go i H' ∧ ∀ v H2, J.yld i H' v H2 → H2 = H' ∧ Rep K g' n' H' x v) ∧ (items.length ≤ i → J.stop i H')
def rdI (K : Kc) (ER : ExT) (Wx : WX) (k : ItK) (w : Stt → (List D → Stt → Prop) → PX → Prop) : TI := fun s H R => ∃ (g : Gh) (st : Stt) (Qd : List D → Stt → Prop) (Xd : PX), Abs K g st s H ∧ w st Qd Xd ∧
  (∀ ds st', Qd ds st' → ∃ items, itD k ds = some items) ∧
  (∀ ds st' items J g' H', Qd ds st' → itD k ds = some items → Ext g st.h.length H g' st'.h.length H' → Abs K g' st' s H' → ItOk K g' st'.h.length H' J items → R J H') ∧
  (∀ c fs st' cls dd g' H', Xd c fs st' → Ext g st.h.length H g' st'.h.length H' → Abs K g' st' s H' → ER g' st'.h.length H' c fs cls dd → Wx cls dd s H')
def SI (X : Cx) (ER : ExT) (Wx : WX) (C : Calls) (tg iter : Expr) (k : ItK) (src : List Ex) : Prop := PI X tg iter (rdI (kz X) ER Wx k (wL C src))
section
variable {X : Cx} {ER : ExT} {Wx : WX} {C : Calls}
theorem piImp {tg e : Expr} {t t' : TI} (h : PI X tg e t) (i : ∀ s H R, t' s H R → t s H R) : PI X tg e t' := ⟨fun pins s σ H R I q => h.run pins s σ H R I (i σ H R q)⟩
/-- a list or a tuple -/
def iSeq (K : Kc) (tl : TE) : TI := fun σ H R => tl σ H fun x H1 => ∃ a, x = .ref a ∧ (((∃ xs, SqL K H1 a xs) ∧ R (Itl K a) H1) ∨ ((∃ xs, SqT K H1 a xs) ∧ R (Itt K a) H1))
theorem pi_seq {tg l : Expr} {tl : TE} (hl : PE X l tl) : PI X tg l (iSeq (kz X) tl) := by
  refine ⟨fun pins s σ H R I h => ?_⟩
  refine thn (hl.run pins s σ H _ I h) fun v s1 ⟨x, H1, I1, r1, q1⟩ => ?_
  obtain ⟨a, e, q1⟩ := q1
  subst e
  cases r1
  rcases q1 with ⟨⟨xs, hq⟩, q⟩ | ⟨⟨xs, hq⟩, q⟩
  · obtain ⟨its, rv, p, hz⟩ := I1.list hq
    refine wpAny_pyIter_list p.isList ?_
    refine ⟨s1.heap.objs.size, [s1.heap.objs.size], _, _, H1, rfl, I1.kept (t' := s1.toks) fun b o e => Heap.get?_push_of_some _ e, turn_list a _, ⟨_, Heap.get?_push_size _ rfl, rfl, rfl⟩, fun b hb => ?_, q⟩
    have e : b = s1.heap.objs.size := by simpa using hb
    subst e
    exact I1.fpOk (Nat.le_refl _) (I1.hok.fresh (Nat.le_refl _))
  · obtain ⟨its, rv, p, hz⟩ := I1.tuple hq
    refine wpAny_pyIter_tuple (show s1.heap.IsTuple a its.toArray from p) ?_
    refine ⟨s1.heap.objs.size, [s1.heap.objs.size], _, _, H1, rfl, I1.kept (t' := s1.toks) fun b o e => Heap.get?_push_of_some _ e, turn_tuple a _, ⟨_, Heap.get?_push_size _ rfl, rfl, rfl⟩, fun b hb => ?_, q⟩
    have e : b = s1.heap.objs.size := by simpa using hb
    subst e
    exact I1.fpOk (Nat.le_refl _) (I1.hok.fresh (Nat.le_refl _))
theorem ItOk.lst {K : Kc} {g : Gh} {n : Nat} {H : Hp} {a : Addr} {vs : List V} {ds : List D} (hs : ∀ g' n' H', Kp g n H g' n' H' → SqL K H' a vs) (hu : ∀ g' n' H', Kp g n H g' n' H' → ∀ xs, SqL K H' a xs → xs = vs) (r : Reps K g n H ds vs) : ItOk K g n H (Itl K a) ds := by
  intro g' n' H' k i
  have q := hs g' n' H' k
  refine ⟨fun x hx => ?_, fun hi => ⟨vs, q, by rw [r.length]; exact hi⟩⟩
  obtain ⟨v, hv, rv⟩ := r.get hx
  refine ⟨⟨vs, v, q, hv⟩, fun w H2 ⟨e, y⟩ => ⟨e, ?_⟩⟩
  have z := y vs q
  rw [hv] at z
  cases z
  exact rv.kp k
theorem si_seq {tg e : Expr} {t : Ex} (h : SE X ER Wx C e t false) : SI X ER Wx C tg e .seq [t] :=
  piImp (pi_seq h) fun s H R ⟨g, st, Qd, Xd, A, w, hi, hq, hx⟩ => by
    have w1 : wE C t st (fun d st1 => Qd [d] st1) Xd := by simpa only [wL] using w
    refine ⟨g, st, _, Xd, A, w1, fun d st1 v g1 H1 q1 x1 A1 r1 => ?_, hx⟩
    obtain ⟨items, e1⟩ := hi _ _ q1
    cases d with
    | lst ds =>
      cases e1
      obtain ⟨a, vs, rfl, h1, r⟩ := r1
      refine ⟨a, rfl, .inl ⟨⟨vs, SqL.of h1.1⟩, hq _ _ _ _ _ _ q1 rfl x1 A1 fun g' n' H' k i => ?_⟩⟩
      have q := SqL.of (K := X.K) (k.ls h1).1
      refine ⟨fun x hx => ?_, fun hi => ⟨vs, q, by rw [r.length]; exact hi⟩⟩
      obtain ⟨v, hv, rv⟩ := r.get hx
      refine ⟨⟨vs, v, q, hv⟩, fun w H2 ⟨e, y⟩ => ⟨e, ?_⟩⟩
      have z := y vs q
      rw [hv] at z
      cases z
      exact rv.kp k
    | tup ds =>
      cases e1
      obtain ⟨a, vs, rfl, h1, r⟩ := r1
      refine ⟨a, rfl, .inr ⟨⟨vs, h1.sq⟩, hq _ _ _ _ _ _ q1 rfl x1 A1 fun g' n' H' k i => ?_⟩⟩
      have q := (k.tp h1).sq
      refine ⟨fun x hx => ?_, fun hi => ⟨vs, q, by rw [r.length]; exact hi⟩⟩
      obtain ⟨v, hv, rv⟩ := r.get hx
      refine ⟨⟨vs, v, q, hv⟩, fun w H2 ⟨e, y⟩ => ⟨e, ?_⟩⟩
      have z := y vs q
      rw [hv] at z
      cases z
      exact rv.kp k
    | scr ds =>
      cases e1
      obtain ⟨a, vs, rfl, h1, r⟩ := r1
      refine ⟨a, rfl, .inl ⟨⟨vs, h1.sq⟩, hq _ _ _ _ _ _ q1 rfl x1 A1 fun g' n' H' k i => ?_⟩⟩
      have q : SqL X.K H' a vs := ScR.sq (h1.imp k.rd id)
      refine ⟨fun x hx => ?_, fun hi => ⟨vs, q, by rw [r.length]; exact hi⟩⟩
      obtain ⟨v, hv, rv⟩ := r.get hx
      refine ⟨⟨vs, v, q, hv⟩, fun w H2 ⟨e, y⟩ => ⟨e, ?_⟩⟩
      have z := y vs q
      rw [hv] at z
      cases z
      exact rv.kp k
    | _ => cases e1
theorem ItOk.rng {K : Kc} {g : Gh} {n : Nat} {H : Hp} {lo : Int} {m : Nat} : ItOk K g n H (Itr lo m) ((List.range m).map fun (k : Nat) => D.int (lo + k)) := by
  intro g' n' H' k i
  refine ⟨fun x hx => ?_, fun hi => show m ≤ i by simpa using hi⟩
  have hl : i < m := by simpa using lt_of_get hx
  have ex : D.int (lo + i) = x := by simpa [List.getElem?_map, List.getElem?_range hl] using hx
  subst ex
  exact ⟨hl, fun v H2 ⟨e1, e2⟩ => ⟨e1, e2⟩⟩
theorem si_range1 {tg a : Expr} {t : Ex} {p pos : Pos} (hg : Gl X "range") (hm : X.mg "range" = none) (h : SE X ER Wx C a t false) (hs : notStar a = true) : SI X ER Wx C tg (.Call (.Name "range" p) [a] [] pos) .range1 [t] :=
  piImp (pi_range1 hg hm (pa_cons h pa_nil (star_of hs _ _)) (star_of hs _ _)) fun s H R ⟨g, st, Qd, Xd, A, w, hi, hq, hx⟩ => by
    have w1 : wE C t st (fun d st1 => Qd [d] st1) Xd := by simpa only [wL] using w
    refine ⟨g, st, _, Xd, A, w1, fun d st1 v g1 H1 q1 x1 A1 r1 => ?_, hx⟩
    obtain ⟨items, e1⟩ := hi _ _ q1
    cases d with
    | int j =>
      cases (show v = V.int j from r1)
      have e2 : (if -(2 ^ 24) < j ∧ j < 2 ^ 24 then some ((List.range j.toNat).map fun (k : Nat) => D.int k) else none) = some items := e1
      by_cases hj : -(2 ^ 24) < j ∧ j < 2 ^ 24
      · rw [if_pos hj] at e2
        cases e2
        exact ⟨j, rfl, by omega, by omega, hq _ _ _ _ _ _ q1 e1 x1 A1 (by simpa using ItOk.rng (lo := 0) (m := j.toNat))⟩
      · rw [if_neg hj] at e2; cases e2
    | _ => cases e1
theorem si_range2 {tg a b : Expr} {t u : Ex} {p pos : Pos} (hg : Gl X "range") (hm : X.mg "range" = none) (h : SE X ER Wx C a t false) (h2 : SE X ER Wx C b u false) (hs : notStar a = true) (hs2 : notStar b = true) : SI X ER Wx C tg (.Call (.Name "range" p) [a, b] [] pos) .range2 [t, u] :=
  piImp (pi_range2 hg hm (pa_cons h (pa_cons h2 pa_nil (star_of hs2 _ _)) (star_of hs _ _)) (by rw [star_of hs, star_of hs2]; rfl) (star_of hs2 _ _)) fun s H R ⟨g, st, Qd, Xd, A, w, hi, hq, hx⟩ => by
    have w1 : wE C t st (fun d st1 => wE C u st1 (fun d2 st2 => Qd [d, d2] st2) Xd) Xd := by simpa only [wL] using w
    refine ⟨g, st, _, Xd, A, w1, fun d st1 v g1 H1 q1 x1 A1 r1 => ?_, hx⟩
    refine ⟨g1, st1, _, Xd, A1, q1, fun d2 st2 v2 g2 H2 q2 x2 A2 r2 => ?_, fun c fs st' cls dd g' H' q x A r => hx c fs st' cls dd g' H' q (x1.trans x) A r⟩
    obtain ⟨items, e1⟩ := hi _ _ q2
    cases d with
    | int i =>
      cases d2 with
      | int j =>
        cases (show v = V.int i from r1)
        cases (show v2 = V.int j from r2)
        have e2 : (if -(2 ^ 24) < i ∧ i < 2 ^ 24 ∧ -(2 ^ 24) < j ∧ j < 2 ^ 24 then some ((List.range (j - i).toNat).map fun (k : Nat) => D.int (i + k)) else none) = some items := e1
        by_cases hj : -(2 ^ 24) < i ∧ i < 2 ^ 24 ∧ -(2 ^ 24) < j ∧ j < 2 ^ 24
        · rw [if_pos hj] at e2
          cases e2
          exact ⟨i, j, rfl, ⟨by omega, by omega, by omega, by omega⟩, hq _ _ _ _ _ _ q2 e1 (x1.trans x2) A2 ItOk.rng⟩
        · rw [if_neg hj] at e2; cases e2
      | _ => cases e1
    | _ => cases e1
end
end Mp
namespace Mp
open PySem PySem.Spec L2

section
variable {K : Kc} {g g1 g2 : Gh} {st st2 : Stt} {s : L2.St} {H H1 H2 H3 : Hp} {n : Nat} {m : Bool}
theorem OwR.rep {p : Addr} (hw : ¬ g.W p) : ∀ {d : D}, OwR K g n H p d → Rep K g n H d (.ref p)
  | .lst _, ⟨vs, h, r⟩ => ⟨p, vs, rfl, ⟨h, hw⟩, r⟩
  | .dic _ _, ⟨kk, ws, h, r1, r2⟩ => ⟨p, kk, ws, rfl, ⟨h, hw⟩, r1, r2⟩
theorem Abs.not_own (A : Abs K g st s H) {p : Addr} (hm : ¬ g.M p) : (∀ i, ¬ OwnAt st.e s i p) ∧ ∀ l, Live st.h l → g.io l ≠ p :=
  ⟨fun i ⟨⟨d, h1⟩, h2⟩ => by
    obtain ⟨ov, e1, b, e2, m, _⟩ := A.sl i _ h1
    rw [h2] at e1; cases e1; cases e2; exact hm m, fun l hl e => hm (by rw [← e]; exact A.live_m hl)⟩
/-- a protected object is done -/
theorem fin_prot {d : D} {p : Addr} (A : Abs K g2 st2 s H2) (hw : g2.W p) (hm : ¬ g2.M p) (x : Ext g n H g2 st2.h.length H2) (hp : H p = none) (hH : ∀ a, a ≠ p → H3 a = H2 a) (h3 : ∃ o, H3 p = some o)
    (ho : ∀ g3, Kp g2 st2.h.length H2 g3 st2.h.length H3 → OwR K g3 st2.h.length H3 p d) (m : Bool) : ∃ g3, Ext g n H g3 st2.h.length H3 ∧ Abs K g3 st2 s H3 ∧ RepM K g3 st2 s H3 m d (.ref p) := by
  cases m with
  | false =>
    obtain ⟨A3, k⟩ := A.chg hw hm (g2 := g2.free p) (H2 := H3) hH (fun a e => ⟨fun z => z.2, fun z => ⟨e, z⟩⟩) (fun a e => Iff.rfl) (fun l => rfl) (fun z => absurd z hm) (fun z => absurd rfl z.1)
    exact ⟨g2.free p, x.chg (g2 := g2.free p) hp hH (fun a e => ⟨fun z => z.2, fun z => ⟨e, z⟩⟩) (fun a e => Iff.rfl) (fun l => rfl), A3, OwR.rep (g := g2.free p) (fun z => z.1 rfl) (ho _ k)⟩
  | true =>
    let g3 : Gh := ⟨g2.io, g2.W, fun a => a = p ∨ g2.M a⟩
    have hM : ∀ a, a ≠ p → (g3.M a ↔ g2.M a) := fun a e => ⟨fun z => z.elim (fun e' => absurd e' e) id, .inr⟩
    obtain ⟨A3, k⟩ := A.chg hw hm (g2 := g3) (H2 := H3) hH (fun a e => Iff.rfl) hM (fun l => rfl) (fun _ => hw) (fun _ => h3)
    have no := A.not_own hm
    exact ⟨g3, x.chg (g2 := g3) hp hH (fun a e => Iff.rfl) hM (fun l => rfl), A3, .inl ⟨p, rfl, .inl rfl, ho _ k, no.1, no.2⟩⟩
theorem Abs.unW (A : Abs K g st s H) {p : Addr} (hp : H p = none) : ¬ g.W p := fun w => by
  obtain ⟨o, h⟩ := A.wt p w; rw [hp] at h; cases h
end

section
variable {X : Cx} {ER : ExT} {Wx : WX} {C : Calls} {m : Bool}
theorem se_dnew {pos : Pos} : SE X ER Wx C (.Dict [] [] pos) (.dct [] []) m :=
  peImp pe_dnewK fun s H Q ⟨g, st, Qd, Xd, A, w, hq, hx⟩ p hp => by
    have w1 : Qd (.dic [] []) st := by simpa only [wE] using w
    obtain ⟨A1, x1⟩ := A.hold hp (.dK [])
    obtain ⟨g3, x3, A3, r3⟩ := fin_prot (d := .dic [] []) (H3 := upd H p (.dK [])) A1 (.inl rfl) (fun z => A.unW hp (A.mw p z)) x1 hp (fun a e => rfl) ⟨_, upd_same⟩ (fun g3 k => ⟨[], [], ⟨[], upd_same, rfl, rfl⟩, rfl, rfl⟩) m
    exact hq _ _ _ _ _ w1 x3 A3 r3
theorem key_of {K : Kc} {g : Gh} {n : Nat} {H : Hp} {a : D} {v : V} (h : keyD a = true) (r : Rep K g n H a v) : ∃ k : Key, kV k = v := by
  cases a with
  | int i => exact ⟨.inl i, r.symm⟩
  | str x => exact ⟨.inr x, r.symm⟩
  | _ => cases h
theorem se_dct1 {k v : Expr} {tk tv : Ex} {pos : Pos} (hk : SE X ER Wx C k tk false) (hv : SE X ER Wx C v tv false) : SE X ER Wx C (.Dict [some k] [v] pos) (.dct [tk] [tv]) m :=
  peImp (pe_disp (pps_cons hk hv pps_nil) rfl rfl (by simp) (by simp)) fun s H Q ⟨g, st, Qd, Xd, A, w, hq, hx⟩ p hp => by
    simp only [wE] at w
    obtain ⟨A1, x1⟩ := A.hold hp (.dK [])
    refine ⟨g.hold p, st, _, Xd, A1, w, fun d st1 x g1 H1 w1 e1 B1 r1 => ?_, fun c fs st' cls dd g' H' q e B r => hx _ _ _ _ _ _ _ q (x1.trans e) B r⟩
    refine ⟨g1, st1, _, Xd, B1, w1, fun d2 st2 y g2 H2 ⟨hkey, w2⟩ e2 B2 r2 => ?_, fun c fs st' cls dd g' H' q e B r => hx _ _ _ _ _ _ _ q ((x1.trans e1).trans e) B r⟩
    have nm : ¬ (g.hold p).M p := fun z => A.unW hp (A.mw p z)
    have e12 := e1.trans e2
    have hp2 : H2 p = some (.dK []) := e12.keep p _ upd_same nm
    obtain ⟨kk, ek⟩ := key_of hkey r1
    refine ⟨hp2, [(kk, y)], by simp [ek], by simp, ?_⟩
    have r1' := Rep.kp (e2.kp B1.mw) r1
    obtain ⟨g3, x3, A3, r3⟩ := fin_prot (d := .dic [d] [d2]) (H3 := upd H2 p (.dK (mergeK [] [(kk, y)]))) B2 ((e12.stay p _ upd_same nm).mpr (.inl rfl)) (e12.stayM p _ upd_same nm) (x1.trans e12) hp (fun a e => upd_ne e) ⟨_, upd_same⟩
      (fun g3 k => ⟨[x], [y], ⟨[(kk, y)], upd_same, by simp [ek], rfl⟩, ⟨x, [], rfl, r1'.kp k, rfl⟩, ⟨y, [], rfl, r2.kp k, rfl⟩⟩) m
    exact hq _ _ _ _ _ w2 x3 A3 r3

/-! ### comprehensions -/
abbrev W0 : WX := fun _ _ _ _ => False
theorem wipe_wipe (σ : L2.St) (vs : List Nat) : wipe (wipe σ vs) vs = wipe σ vs := by
  have key : ∀ us : List Nat, (∀ i ∈ us, i ∈ vs) → wipe (wipe σ us) vs = wipe σ vs := by
    intro us
    induction us with
    | nil => intro _; rfl
    | cons u us ih =>
      intro h
      show wipe ((wipe σ us).set u none) vs = _
      rw [wipe_set (h u (by simp)), ih fun i hi => h i (by simp [hi])]
  exact key vs fun _ h => h
def STs (X : Cx) (ER : ExT) (Wx : WX) (C : Calls) (es : List Expr) (ts : List Ex) : Prop := PTs X es (rdT (kz X) ER Wx (wTs C ts))
theorem ptsImp {es : List Expr} {t t' : TT} (h : PTs X es t) (i : ∀ s H Q, t' s H Q → t s H Q) : PTs X es t' := ⟨fun pins s σ H Q I q => h.run pins s σ H Q I (i σ H Q q)⟩
theorem sts_nil : STs X ER Wx C [] [] := ptsImp pts_nil fun s H Q ⟨g, st, Qd, Xd, A, w, hq, hx⟩ => by
  have w1 : Qd true st := by simpa only [wTs] using w
  exact hq _ _ _ _ w1 (Ext.refl _ _ _) A
theorem sts_one {e : Expr} {t : Ex} (h : ST X ER Wx C e t) : STs X ER Wx C [e] [t] := ptsImp (pts_one h) fun s H Q ⟨g, st, Qd, Xd, A, w, hq, hx⟩ => by
  simp only [wTs] at w
  refine ⟨g, st, _, Xd, A, w, fun b st1 g1 H1 w1 x1 A1 => ?_, hx⟩
  cases b with
  | true => exact hq _ _ _ _ w1 x1 A1
  | false => exact hq _ _ _ _ w1 x1 A1
theorem rd_lc {K : Kc} {s : L2.St} {H : Hp} {Q : VK} {k : ItK} {src tifs : List Ex} {tgt : Tg} {telt : Ex} {own : List Nat} (htg : ∀ i ∈ tgI tgt, i ∈ own) (h : rdE K ER Wx (wE C (.lc k src tgt tifs telt own)) m s H Q) :
    tLc (rdI K ER Wx k (wL C src)) (rdG K tgt) (rdT K ER W0 (wTs C tifs)) (rdE K ER W0 (wE C telt) false) own s H Q := by
  obtain ⟨g, st, Qd, Xd, A, w, hq, hx⟩ := h
  simp only [wE] at w
  refine ⟨g, st, _, Xd, A, w, fun ds st1 ⟨items, e, _⟩ => ⟨items, e⟩, fun ds st1 items J g1 H1 q1 ei x1 A1 it => ?_, hx⟩
  obtain ⟨items', ei', hlen, w1⟩ := q1
  rw [ei] at ei'
  cases ei'
  intro p hp
  generalize hfin : (fun out (st5 : Stt) => Qd (.lst out) ⟨unhide st1.e st5.e own, st5.h⟩) = Fin at w1
  generalize hturn : (fun (x : D) (st2 : Stt) (R : List D → Stt → Prop) => ∃ e', tgS tgt x st2.e = some e' ∧ wTs C tifs ⟨e', st2.h⟩ (fun b st3 => if b = true then wE C telt st3 (fun y st4 => R [y] ⟨hide st4.e own, st4.h⟩) (fun _ _ _ => False) else R [] ⟨hide st3.e own, st3.h⟩) (fun _ _ _ => False)) = turn at w1
  have hu : ∀ x st2 R, turn x st2 R = (∃ e', tgS tgt x st2.e = some e' ∧ wTs C tifs ⟨e', st2.h⟩ (fun b st3 => if b = true then wE C telt st3 (fun y st4 => R [y] ⟨hide st4.e own, st4.h⟩) (fun _ _ _ => False) else R [] ⟨hide st3.e own, st3.h⟩) (fun _ _ _ => False)) := fun x st2 R => by rw [← hturn]
  have hlen' : items.length ≤ sizeLine := hlen
  let Inv' : Nat → Nat → Hp → Prop := fun i mm H' => mm = items.length - i ∧ i ≤ items.length ∧ ∃ (g' : Gh) (st' : Stt) (acc : List D) (vs : List V), Abs K g' st' (wipe s own) H' ∧ Ext g1 st1.h.length H1 g' st'.h.length H' ∧ g'.W p ∧ ¬ g'.M p ∧
    H' p = some (.lst vs) ∧ Reps K g' st'.h.length H' acc vs ∧ acc.length ≤ i ∧ lcLoop turn (items.drop i) acc st' Fin
  refine ⟨Inv', ⟨items.length, by simp, Nat.zero_le _, ?_⟩, fun i mm H' ⟨em, hi, g', st', acc, vs, A', x', hw', hm', hp', r', ha', l'⟩ => ?_⟩
  · obtain ⟨A2, x2⟩ := (A1.hide own).hold hp (.lst [])
    exact ⟨_, _, [], [], A2, x2, .inl rfl, fun z => A1.unW hp (A1.mw p z), upd_same, rfl, Nat.le_refl _, w1⟩
  · have kp' := x'.kp A1.mw
    by_cases hlt : i < items.length
    · rw [List.drop_eq_getElem_cons hlt] at l'
      have l2 : turn items[i] st' fun r st2 => lcLoop turn (items.drop (i + 1)) (acc ++ r) st2 Fin := l'
      rw [hu] at l2
      obtain ⟨e', he', w2⟩ := l2
      obtain ⟨go, yl⟩ := (it _ _ _ kp' i).1 _ (List.getElem?_eq_getElem hlt)
      refine .inr ⟨go, Inv' (i + 1) (items.length - (i + 1)), fun H2 z => ⟨_, by omega, z⟩, fun v H2 y => ?_⟩
      obtain ⟨e2, rv⟩ := yl v H2 y
      subst e2
      refine ⟨g', st', _, e', A', rv, he', fun s2 A2 ws => ?_⟩
      have hws : wipe s2 own = wipe s own := (ws own htg).trans (wipe_wipe s own)
      refine ⟨hws, g', ⟨e', st'.h⟩, _, _, A2, w2, fun b st3 g3 H3 q3 x3 A3 => ?_, fun _ _ _ _ _ _ _ z => z.elim⟩
      have hp3 := x3.keep p _ hp' hm'
      have hw3 := (x3.stay p _ hp' hm').mpr hw'
      have hm3 := x3.stayM p _ hp' hm'
      cases b with
      | false =>
        have q4 : lcLoop turn (items.drop (i + 1)) (acc ++ []) ⟨Mp.hide st3.e own, st3.h⟩ Fin := by simpa using q3
        rw [List.append_nil] at q4
        have A4 := A3.hide own
        rw [hws] at A4
        exact ⟨rfl, hlt, g3, _, acc, vs, A4, x'.trans x3, hw3, hm3, hp3, r'.kp (x3.kp A'.mw), Nat.le_succ_of_le ha', q4⟩
      | true =>
        have q4 : wE C telt st3 (fun y st4 => lcLoop turn (items.drop (i + 1)) (acc ++ [y]) ⟨Mp.hide st4.e own, st4.h⟩ Fin) (fun _ _ _ => False) := by simpa using q3
        refine ⟨g3, st3, _, _, A3, q4, fun y4 st4 vy g4 H4 q5 x4 A4 r4 => ?_, fun _ _ _ _ _ _ _ z => z.elim⟩
        have hp4 := x4.keep p _ hp3 hm3
        have hw4 := (x4.stay p _ hp3 hm3).mpr hw3
        have hm4 := x4.stayM p _ hp3 hm3
        have rv4 := (r'.kp (x3.kp A'.mw)).kp (x4.kp A3.mw)
        refine ⟨vs, hp4, by rw [rv4.length]; omega, rfl, hlt, ?_⟩
        have A5 := A4.hide own
        rw [hws] at A5
        obtain ⟨A6, k6⟩ := A5.chg hw4 hm4 (g2 := g4) (H2 := upd H4 p (.lst (vs ++ [vy]))) (fun a e => upd_ne e) (fun _ _ => Iff.rfl) (fun _ _ => Iff.rfl) (fun _ => rfl) (fun z => absurd z hm4) (fun _ => ⟨_, upd_same⟩)
        have ry : Reps K g4 st4.h.length H4 [y4] [vy] := ⟨vy, [], rfl, r4, rfl⟩
        exact ⟨g4, _, acc ++ [y4], vs ++ [vy], A6, ((x'.trans x3).trans x4).chg hp (fun a e => upd_ne e) (fun _ _ => Iff.rfl) (fun _ _ => Iff.rfl) (fun _ => rfl), hw4, hm4, upd_same,
          (rv4.append ry).kp k6, by rw [List.length_append]; simpa using ha', q5⟩
    · have ei2 : i = items.length := by omega
      subst ei2
      have l2 : Fin acc st' := by simpa [lcLoop] using l'
      rw [← hfin] at l2
      refine .inl ⟨(it _ _ _ kp' _).2 (Nat.le_refl _), ?_⟩
      have A2 : Abs K g' ⟨Mp.unhide st1.e st'.e own, st'.h⟩ s H' := A1.unhide kp' A'
      obtain ⟨g3, x3, A3, r3⟩ := fin_prot (d := .lst acc) (H3 := H') A2 hw' hm' x' hp (fun a e => rfl) ⟨_, hp'⟩ (fun g3 k => ⟨vs, hp', r'.kp k⟩) m
      exact hq _ _ _ _ _ l2 (x1.trans x3) A3 r3
theorem se_lc {elt tg iter : Expr} {ifs : List Expr} {scope : Scope} {own : List (Str × Nat)} {pos : Pos} {k : ItK} {src tifs : List Ex} {tgt : Tg} {telt : Ex} (hc : X.calm = true) (hN : X.N.Nodup) (hi : SI X ER Wx C tg iter k src) (ok : BlkOk X.N X.env.scope scope own)
    (hg : ∀ (s : Shared) (H : Hp) (c : Addr) (cl : List (Str × Addr)) (fp : List Addr), SG (X.blk s H scope (compEnvC scope cl c X.env) fp) tg tgt) (ht : ∀ (s : Shared) (H : Hp) (c : Addr) (cl : List (Str × Addr)) (fp : List Addr), STs (X.blk s H scope (compEnvC scope cl c X.env) fp) ER W0 C ifs tifs)
    (he : ∀ (s : Shared) (H : Hp) (c : Addr) (cl : List (Str × Addr)) (fp : List Addr), SE (X.blk s H scope (compEnvC scope cl c X.env) fp) ER W0 C elt telt false) (hs : ∀ x, foldedSetIterable iter X.env x = pure x) (htg : ∀ i ∈ tgI tgt, i ∈ own.map (·.2)) :
    SE X ER Wx C (.ListComp elt [⟨tg, iter, ifs, 0⟩] scope pos) (.lc k src tgt tifs telt (own.map (·.2))) m := by
  have e : ∀ (s : Shared) (H : Hp) (c : Addr) (cl : List (Str × Addr)) (fp : List Addr), kz (X.blk s H scope (compEnvC scope cl c X.env) fp) = kz X := fun s H c cl fp => by
    rw [kz_calm hc, kz_calm (X := X.blk s H scope (compEnvC scope cl c X.env) fp) hc]
  have hg' : ∀ (s : Shared) (H : Hp) (c : Addr) (cl : List (Str × Addr)) (fp : List Addr), PG (X.blk s H scope (compEnvC scope cl c X.env) fp) tg (rdG (kz X) tgt) := fun s H c cl fp => by rw [← e s H c cl fp]; exact hg s H c cl fp
  have ht' : ∀ (s : Shared) (H : Hp) (c : Addr) (cl : List (Str × Addr)) (fp : List Addr), PTs (X.blk s H scope (compEnvC scope cl c X.env) fp) ifs (rdT (kz X) ER W0 (wTs C tifs)) := fun s H c cl fp => by rw [← e s H c cl fp]; exact ht s H c cl fp
  have he' : ∀ (s : Shared) (H : Hp) (c : Addr) (cl : List (Str × Addr)) (fp : List Addr), PE (X.blk s H scope (compEnvC scope cl c X.env) fp) elt (rdE (kz X) ER W0 (wE C telt) false) := fun s H c cl fp => by rw [← e s H c cl fp]; exact he s H c cl fp
  exact peImp (pe_lc (g := rdG (kz X) tgt) (tt := rdT (kz X) ER W0 (wTs C tifs)) (te := rdE (kz X) ER W0 (wE C telt) false) hc hN hi ok hg' ht' he' hs) fun s H Q h => rd_lc htg h
end
end Mp
namespace Mp
open PySem PySem.Spec L2

/-- the reading of a statement -/
def rdSt (K : Kc) (ER : ExT) (Wx : WX) (m : Bool) (w : Stt → EndD → Prop) : TS := fun D s H => ∃ (g : Gh) (st : Stt) (E : EndD), Abs K g st s H ∧ w st E ∧
  (∀ st' s' g' H', E.nx st' → Ext g st.h.length H g' st'.h.length H' → Abs K g' st' s' H' → D.nx s' H') ∧
  (∀ d st' s' v g' H', E.rt d st' → Ext g st.h.length H g' st'.h.length H' → Abs K g' st' s' H' → RepM K g' st' s' H' m d v → D.rt v H') ∧
  (∀ st' s' g' H', E.bk st' → Ext g st.h.length H g' st'.h.length H' → Abs K g' st' s' H' → D.bk s' H') ∧
  (∀ st' s' g' H', E.ct st' → Ext g st.h.length H g' st'.h.length H' → Abs K g' st' s' H' → D.ct s' H') ∧
  (∀ c fs st' s' cls dd g' H', E.ex c fs st' → Ext g st.h.length H g' st'.h.length H' → Abs K g' st' s' H' → ER g' st'.h.length H' c fs cls dd → Wx cls dd s' H')
def SS (X : Cx) (ER : ExT) (Wx : WX) (C : Calls) (m : Bool) (p : Stmt) (q : Sm) : Prop := PS X p (rdSt (kz X) ER Wx m (wS C q))
def SSs (X : Cx) (ER : ExT) (Wx : WX) (C : Calls) (m : Bool) (p : List Stmt) (q : List Sm) : Prop := PSs X p (rdSt (kz X) ER Wx m (wSs C q))

section
variable {X : Cx} {ER : ExT} {Wx : WX} {C : Calls} {m : Bool}
theorem psImp {p : Stmt} {t t' : TS} (h : PS X p t) (i : ∀ D s H, t' D s H → t D s H) : PS X p t' := ⟨fun pins s σ H D I q => h.run pins s σ H D I (i D σ H q)⟩
theorem pssImp {p : List Stmt} {t t' : TS} (h : PSs X p t) (i : ∀ D s H, t' D s H → t D s H) : PSs X p t' := ⟨fun pins s σ H D I q => h.run pins s σ H D I (i D σ H q)⟩
theorem ss_pass {pos : Pos} : SS X ER Wx C m (.Pass pos) .pass := psImp ps_pass fun D s H ⟨g, st, E, A, w, hn, _⟩ => by
  have w1 : E.nx st := by simpa only [wS] using w
  exact hn _ _ _ _ w1 (Ext.refl _ _ _) A
theorem ss_doc {x : Str} {j : Nat} {p pos : Pos} : SS X ER Wx C m (.Expr (.Constant (.str x) j p) pos) .pass := psImp ps_doc fun D s H ⟨g, st, E, A, w, hn, _⟩ => by
  have w1 : E.nx st := by simpa only [wS] using w
  exact hn _ _ _ _ w1 (Ext.refl _ _ _) A
theorem ss_brk {pos : Pos} : SS X ER Wx C m (.Break pos) .brk := psImp ps_break fun D s H ⟨g, st, E, A, w, hn, hr, hb, hc, hx⟩ => by
  have w1 : E.bk st := by simpa only [wS] using w
  exact hb _ _ _ _ w1 (Ext.refl _ _ _) A
theorem ss_cnt {pos : Pos} : SS X ER Wx C m (.Continue pos) .cnt := psImp ps_continue fun D s H ⟨g, st, E, A, w, hn, hr, hb, hc, hx⟩ => by
  have w1 : E.ct st := by simpa only [wS] using w
  exact hc _ _ _ _ w1 (Ext.refl _ _ _) A
theorem ss_retN {pos : Pos} : SS X ER Wx C m (.Return none pos) (.ret (.con .non)) := psImp ps_retN fun D s H ⟨g, st, E, A, w, hn, hr, hb, hc, hx⟩ => by
  have w1 : E.rt .non st := by simpa only [wS, wE] using w
  refine hr _ _ _ _ _ _ w1 (Ext.refl _ _ _) A ?_
  cases m with
  | false => rfl
  | true => exact .inr ⟨rfl, rfl⟩
theorem ss_ret {e : Expr} {t : Ex} {pos : Pos} (h : SE X ER Wx C e t m) : SS X ER Wx C m (.Return (some e) pos) (.ret t) := psImp (ps_ret h) fun D s H ⟨g, st, E, A, w, hn, hr, hb, hc, hx⟩ => by
  have w1 : wE C t st E.rt E.ex := by simpa only [wS] using w
  exact ⟨g, st, _, _, A, w1, fun d st' v g' H' q x A' r => hr _ _ _ _ _ _ q x A' r, fun c fs st' cls dd g' H' q x A' r => hx _ _ _ _ _ _ _ _ q x A' r⟩
def notComp : Expr → Bool
  | .ListComp _ _ _ _ => false
  | .SetComp _ _ _ _ => false
  | .DictComp _ _ _ _ _ => false
  | _ => true
theorem swaps_of {e : Expr} (h : notComp e = true) (t : Option Expr) (n : Nat) (env : Env) : swapsWith e t n env = pure false := by
  cases e <;> first | rfl | cases h
theorem swapsS_of {e : Expr} (h : notComp e = true) (t : Expr) (n : Nat) (env : Env) : swapsWithSole [t] e n env = pure false := swaps_of h (some t) n env
theorem ss_exp {e : Expr} {t : Ex} {pos : Pos} (h : SE X ER Wx C e t false) (hs : notComp e = true) : SS X ER Wx C m (.Expr e pos) (.exp t) := psImp (ps_expr h (swaps_of hs _ _ _)) fun D s H ⟨g, st, E, A, w, hn, hr, hb, hc, hx⟩ => by
  have w1 : wE C t st (fun _ st1 => E.nx st1) E.ex := by simpa only [wS] using w
  exact ⟨g, st, _, _, A, w1, fun d st' v g' H' q x A' r => hn _ _ _ _ q x A', fun c fs st' cls dd g' H' q x A' r => hx _ _ _ _ _ _ _ _ q x A' r⟩
theorem rdSt_asg {K : Kc} {D : Ends} {s : L2.St} {H : Hp} {tg : Tg} {t : Ex} (h : rdSt K ER Wx m (wS C (.asg tg t)) D s H) : tAsg (rdE K ER Wx (wE C t) false) (rdG K tg) D s H := by
  obtain ⟨g, st, E, A, w, hn, hr, hb, hc, hx⟩ := h
  simp only [wS] at w
  refine ⟨g, st, _, _, A, w, fun d st' v g' H' ⟨e', he, q⟩ x A' r => ?_, fun c fs st' cls dd g' H' q x A' r => hx _ _ _ _ _ _ _ _ q x A' r⟩
  exact ⟨g', st', d, e', A', r, he, fun s' A2 _ => hn ⟨e', st'.h⟩ _ _ _ q x A2⟩
theorem rdSt_asgO {K : Kc} {D : Ends} {s : L2.St} {H : Hp} {i : Nat} {t : Ex} (h : rdSt K ER Wx m (wS C (.asgO i t)) D s H) : tAsg (rdE K ER Wx (wE C t) true) (gName i) D s H := by
  obtain ⟨g, st, E, A, w, hn, hr, hb, hc, hx⟩ := h
  simp only [wS] at w
  refine ⟨g, st, _, _, A, w, fun d st' v g' H' q x A' r => ?_, fun c fs st' cls dd g' H' q x A' r => hx _ _ _ _ _ _ _ _ q x A' r⟩
  exact hn ⟨_, st'.h⟩ _ _ _ q x (A'.setO r)
theorem rdG_nm {K : Kc} {i : Nat} {v : V} {s : L2.St} {H : Hp} {Q : L2.St → Hp → Prop} (h : rdG K (.nm i) v s H Q) : gName i v s H Q := by
  obtain ⟨g, st, d, e', A, r, e, q⟩ := h
  have e2 : some (st.e.set i (.shr d)) = some e' := by simpa only [tgS] using e
  cases e2
  exact q _ (A.setS r) fun vs h => wipe_set (h i (by simp [tgI]))
theorem ss_asgN {x : Str} {i : Nat} {e : Expr} {t : Ex} {p pos : Pos} (hN : X.N.Nodup) (hi : X.N[i]? = some x) (hx : Loc X.env.scope x) (hf : X.fn x = true ∨ X.env.scope.names.lookup x = some .local) (h : SE X ER Wx C e t false) (hs : notComp e = true) :
    SS X ER Wx C m (.Assign [.Name x p] e pos) (.asg (.nm i) t) := psImp (ps_set hN hi hx h (swaps_of hs _ _ _) hf) fun D s H h => rdE_mono (rdSt_asg h) fun v H' q => rdG_nm q
theorem ss_asgO {x : Str} {i : Nat} {e : Expr} {t : Ex} {p pos : Pos} (hN : X.N.Nodup) (hi : X.N[i]? = some x) (hx : Loc X.env.scope x) (hf : X.fn x = true ∨ X.env.scope.names.lookup x = some .local) (h : SE X ER Wx C e t true) (hs : notComp e = true) :
    SS X ER Wx C m (.Assign [.Name x p] e pos) (.asgO i t) := psImp (ps_set hN hi hx h (swaps_of hs _ _ _) hf) fun D s H h => rdSt_asgO h
/-- the sides of a parallel assignment whose stores are swapped -/
def isTup : Expr → Bool
  | .Tuple _ _ _ => true
  | _ => false
theorem swst_of {e : Expr} (h : isTup e = false) (ts : List Expr) (env : Env) : swappedStores ts e env = pure none := by
  unfold swappedStores
  split
  · rename_i q
    split at q <;> first | (cases q; done) | (exact absurd h (by simp [isTup]))
  · rfl
theorem ss_asgT {tge e : Expr} {tg : Tg} {t : Ex} {pos : Pos} (hg : SG X tge tg) (h : SE X ER Wx C e t false) (hs : notComp e = true) (ht : isTup e = false) (h1 : (assignEach [tge] X.env).map (·.2) = [assign tge X.env]) : SS X ER Wx C m (.Assign [tge] e pos) (.asg tg t) :=
  psImp (ps_asg h hg (swapsS_of hs _ _ _) (swst_of ht _ _) h1) fun D s H h => rdSt_asg h

/-! ### changing a list -/
theorem lst_inv {st : Stt} {i : Nat} {ds : List D} (h : lstAt st i = some ds) : st.e[i]? = some (.own (.lst ds)) ∨ ∃ l, st.e[i]? = some (.shr (.cell l)) ∧ st.h[l]? = some (.lst ds) := by
  unfold lstAt at h
  split at h
  · cases h; exact .inl (by assumption)
  · split at h
    · cases h; exact .inr ⟨_, by assumption, by assumption⟩
    · cases h
  · cases h
theorem Abs.lst {K : Kc} {g : Gh} {st : Stt} {s : L2.St} {H : Hp} (A : Abs K g st s H) {i : Nat} {ds : List D} (h : lstAt st i = some ds) : ∃ a vs, s[i]? = some (some (.ref a)) ∧ H a = some (.lst vs) ∧ Reps K g st.h.length H ds vs ∧ g.M a ∧
    ∀ es ws, Reps K g st.h.length H es ws → Abs K g (putAt st i es) s (upd H a (.lst ws)) ∧ Ext g st.h.length H g (putAt st i es).h.length (upd H a (.lst ws)) := by
  rcases lst_inv h with h1 | ⟨l, h1, h2⟩
  · obtain ⟨ov, e1, a, e2, m, vs, hv, r⟩ := A.sl i _ h1
    refine ⟨a, vs, by rw [e1, e2], hv, r, m, fun es ws re => ?_⟩
    have ep : putAt st i es = ⟨st.e.set i (.own (.lst es)), st.h⟩ := by unfold putAt; rw [h1]
    rw [ep]
    exact A.writeO h1 (by rw [e1, e2]) (.lst ws) ⟨ws, upd_same, re.kp (Kp.write (A.mw a m) _)⟩
  · obtain ⟨ov, e1, v, e2, hl, ev⟩ := A.sl i _ h1
    subst ev
    obtain ⟨m, vs, hv, r⟩ := A.ce l _ h2
    refine ⟨g.io l, vs, by rw [e1, e2], hv, r, m, fun es ws re => ?_⟩
    have ep : putAt st i es = ⟨st.e, st.h.set l (.lst es)⟩ := by unfold putAt; rw [h1]
    rw [ep]
    exact A.writeC h2 (by intro z; cases z) (by intro z; cases z) (.lst ws) ⟨m, ws, upd_same, re.kp (Kp.write (A.mw _ m) _)⟩
/-- x[k] = e -/
theorem ss_setI {x : Str} {i : Nat} {k e : Expr} {tk t : Ex} {p p2 pos : Pos} (hN : X.N[i]? = some x) (hv : Vis X.env.scope x) (hd : (x == ("__debug__" : Str)) = false) (hcd : (x == ("__classdict__" : Str)) = false) (hk : SE X ER Wx C k tk false) (h : SE X ER Wx C e t false) (hs : notComp e = true) (ht : isTup e = false)
    (ha : ∀ v, assign (.Subscript (.Name x p) k p2) X.env v = (do
      let ov ← holding [v] (eval (.Name x p) X.env)
      let iv ← holding [v, ov] (eval k X.env)
      standAt p2
      holding [v, ov, iv] (setItem ov iv v)
      release [v, ov, iv] [])) : SS X ER Wx C m (.Assign [.Subscript (.Name x p) k p2] e pos) (.setI i tk t) :=
  psImp (ps_asg h (pg_sub (pe_var hN hv hd hcd) hk set_list ha) (swapsS_of hs _ _ _) (swst_of ht _ _) rfl) fun D s H ⟨g, st, E, A, w, hn, hr, hb, hc, hx⟩ => by
    simp only [wS] at w
    refine ⟨g, st, _, _, A, w, fun d st1 v g1 H1 ⟨h1, w1⟩ x1 A1 r1 => ?_, fun c fs st' cls dd g' H' q x A' r => hx _ _ _ _ _ _ _ _ q x A' r⟩
    obtain ⟨d0, hd0⟩ := Option.isSome_iff_exists.mp h1
    obtain ⟨o, eo, _⟩ := A1.slot hd0
    refine ⟨o, eo, g1, st1, _, _, A1, w1, fun z st2 vk g2 H2 q2 x2 A2 r2 => ?_, fun c fs st' cls dd g' H' q x A' r => hx _ _ _ _ _ _ _ _ q (x1.trans x) A' r⟩
    split at q2
    · obtain ⟨ds, mi, hl, hm, q3⟩ := q2
      obtain ⟨a, vs, e1, hv1, rv, ma, put⟩ := A2.lst hl
      rw [eo] at e1
      cases e1
      have r1' := Rep.kp (x2.kp A1.mw) r1
      obtain ⟨A3, x3⟩ := put _ _ (rv.set mi r1')
      exact ⟨a, vs, _, mi, rfl, r2, hv1, by rw [rv.length]; exact hm, hn _ _ _ _ q3 ((x1.trans x2).trans x3) A3⟩
    · exact q2.elim
/-- x.append(e) -/
theorem ss_app {x : Str} {i : Nat} {e : Expr} {t : Ex} {np apos cpos pos : Pos} (hN : X.N[i]? = some x) (hv : Vis X.env.scope x) (hd : (x == ("__debug__" : Str)) = false) (hcd : (x == ("__classdict__" : Str)) = false) (h : SE X ER Wx C e t false) (hs : notStar e = true) (hl : (apos.endLine == cpos.line) = true) :
    SS X ER Wx C m (.Expr (.Call (.Attribute (.Name x np) "append" apos) [e] [] cpos) pos) (.app i t) := by
  have hst : ([e] : List Expr).all notStar = true := by simp [hs]
  refine psImp (ps_expr (pe_bm PySem.F.plainAttrs_list PySem.F.slot_list_append PySem.F.type_list_append mt_append (pe_var hN hv hd hcd) (pa_cons h pa_nil (star_of hs _ _)) (base_of rfl _ _ _) (few_of hst (by simp) _ _) hl (star_of hs _ _) rfl) rfl) fun D s H ⟨g, st, E, A, w, hn, hr, hb, hc, hx⟩ => ?_
  simp only [wS] at w
  obtain ⟨h0, w⟩ := w
  obtain ⟨ds0, hl0⟩ := Option.isSome_iff_exists.mp h0
  obtain ⟨a, vs0, e0, hv0, _⟩ := A.lst hl0
  refine ⟨.ref a, e0, .inl ⟨rfl, vs0, SqL.of hv0⟩, ?_⟩
  refine ⟨g, st, _, _, A, w, fun d st1 v g1 H1 ⟨ds, hl1, hz, q⟩ x1 A1 r1 => ?_, fun c fs st' cls dd g' H' q x A' r => hx _ _ _ _ _ _ _ _ q x A' r⟩
  obtain ⟨b, vs, e1, hv1, rv, mb, put⟩ := A1.lst hl1
  rw [e0] at e1
  cases e1
  obtain ⟨A3, x3⟩ := put (ds ++ [d]) (vs ++ [v]) (rv.append ⟨v, [], rfl, r1, rfl⟩)
  exact ⟨a, vs, v, rfl, rfl, hv1, by rw [rv.length]; exact hz, hn _ _ _ _ q (x1.trans x3) A3⟩

/-! ### flow -/
theorem sss_nil : SSs X ER Wx C m [] [] := pssImp pss_nil fun D s H ⟨g, st, E, A, w, hn, hr, hb, hc, hx⟩ => by
  have w1 : E.nx st := by simpa only [wSs] using w
  exact hn _ _ _ _ w1 (Ext.refl _ _ _) A
theorem rdSt_next {K : Kc} {D : Ends} {g g1 : Gh} {st st1 : Stt} {s1 : L2.St} {H H1 : Hp} {E : EndD} {w : Stt → EndD → Prop} (A1 : Abs K g1 st1 s1 H1) (x1 : Ext g st.h.length H g1 st1.h.length H1) (w1 : w st1 E)
    (hn : ∀ st' s' g' H', E.nx st' → Ext g st.h.length H g' st'.h.length H' → Abs K g' st' s' H' → D.nx s' H')
    (hr : ∀ d st' s' v g' H', E.rt d st' → Ext g st.h.length H g' st'.h.length H' → Abs K g' st' s' H' → RepM K g' st' s' H' m d v → D.rt v H')
    (hb : ∀ st' s' g' H', E.bk st' → Ext g st.h.length H g' st'.h.length H' → Abs K g' st' s' H' → D.bk s' H')
    (hc : ∀ st' s' g' H', E.ct st' → Ext g st.h.length H g' st'.h.length H' → Abs K g' st' s' H' → D.ct s' H')
    (hx : ∀ c fs st' s' cls dd g' H', E.ex c fs st' → Ext g st.h.length H g' st'.h.length H' → Abs K g' st' s' H' → ER g' st'.h.length H' c fs cls dd → Wx cls dd s' H') : rdSt K ER Wx m w D s1 H1 :=
  ⟨g1, st1, E, A1, w1, fun _ _ _ _ q x A => hn _ _ _ _ q (x1.trans x) A, fun _ _ _ _ _ _ q x A r => hr _ _ _ _ _ _ q (x1.trans x) A r, fun _ _ _ _ q x A => hb _ _ _ _ q (x1.trans x) A, fun _ _ _ _ q x A => hc _ _ _ _ q (x1.trans x) A, fun _ _ _ _ _ _ _ _ q x A r => hx _ _ _ _ _ _ _ _ q (x1.trans x) A r⟩
theorem sss_cons {p : Stmt} {ps : List Stmt} {q : Sm} {qs : List Sm} (h : SS X ER Wx C m p q) (hs : SSs X ER Wx C m ps qs) : SSs X ER Wx C m (p :: ps) (q :: qs) := pssImp (pss_cons h hs) fun D s H ⟨g, st, E, A, w, hn, hr, hb, hc, hx⟩ => by
  simp only [wSs] at w
  exact ⟨g, st, _, A, w, fun st1 s1 g1 H1 q x1 A1 => rdSt_next A1 x1 q hn hr hb hc hx, hr, hb, hc, hx⟩
theorem ss_ite {c : Expr} {tc : Ex} {a b : List Stmt} {ta tb : List Sm} {pos : Pos} (hcn : ST X ER Wx C c tc) (ha : SSs X ER Wx C m a ta) (hbn : SSs X ER Wx C m b tb) : SS X ER Wx C m (.If c a b pos) (.ite tc ta tb) := psImp (ps_if hcn ha hbn) fun D s H ⟨g, st, E, A, w, hn, hr, hb, hc, hx⟩ => by
  simp only [wS] at w
  refine ⟨g, st, _, _, A, w, fun k st1 g1 H1 q x1 A1 => ?_, fun c fs st' cls dd g' H' q x A' r => hx _ _ _ _ _ _ _ _ q x A' r⟩
  cases k with
  | true => exact rdSt_next A1 x1 q hn hr hb hc hx
  | false => exact rdSt_next A1 x1 q hn hr hb hc hx
theorem ss_whl {c : Expr} {tc : Ex} {b : List Stmt} {tb : List Sm} {pos : Pos} (hp : PassesOwn (model X.prog X.w) X.A X.env X.xe) (hcn : ST X ER Wx C c tc) (hbn : SSs X ER Wx C m b tb) : SS X ER Wx C m (.While c b [] pos) (.whl tc tb) := psImp (ps_while hp hcn hbn) fun D s H ⟨g, st, E, A, w, hn, hr, hb, hc, hx⟩ => by
  simp only [wS] at w
  obtain ⟨I, ⟨m0, i0⟩, turn⟩ := w
  refine ⟨fun m s' H' => ∃ g' st', Abs (kz X) g' st' s' H' ∧ Ext g st.h.length H g' st'.h.length H' ∧ I m st', ⟨m0, g, st, A, Ext.refl _ _ _, i0⟩, fun m s' H' ⟨g', st', A', x', i'⟩ => ?_⟩
  refine ⟨g', st', _, _, A', turn m st' i', fun k st1 g1 H1 q x1 A1 => ?_, fun c fs st2 cls dd g2 H2 q x2 A2 r => hx _ _ _ _ _ _ _ _ q (x'.trans x2) A2 r⟩
  have x1' := x'.trans x1
  cases k with
  | false => exact hn _ _ _ _ q x1' A1
  | true =>
    refine ⟨fun s2 H2 => ∃ m', m' < m ∧ ∃ g' st', Abs (kz X) g' st' s2 H2 ∧ Ext g st.h.length H g' st'.h.length H2 ∧ I m' st', fun _ _ z => z, ?_⟩
    refine rdSt_next A1 x1' q (fun st2 s2 g2 H2 ⟨m', hm, z⟩ x2 A2 => ⟨m', hm, g2, st2, A2, x2, z⟩) hr hn (fun st2 s2 g2 H2 ⟨m', hm, z⟩ x2 A2 => ⟨m', hm, g2, st2, A2, x2, z⟩) hx
theorem ss_for {tge iter : Expr} {b : List Stmt} {k : ItK} {src : List Ex} {tg : Tg} {tb : List Sm} {pos : Pos} (hp : PassesOwn (model X.prog X.w) X.A X.env X.xe) (hcalm : X.calm = true) (hi : SI X ER Wx C tge iter k src) (hg : SG X tge tg) (hbn : SSs X ER Wx C m b tb) (hs : ∀ x, foldedSetIterable iter X.env x = pure x) :
    SS X ER Wx C m (.For tge iter b [] pos) (.for_ k src tg tb) := psImp (ps_for hp hcalm hi hg hbn hs) fun D s H ⟨g, st, E, A, w, hn, hr, hb, hc, hx⟩ => by
  simp only [wS] at w
  refine ⟨g, st, _, _, A, w, fun ds st1 ⟨items, e, _⟩ => ⟨items, e⟩, fun ds st1 items J g1 H1 q1 ei x1 A1 it => ?_, fun c fs st' cls dd g' H' q x A' r => hx _ _ _ _ _ _ _ _ q x A' r⟩
  obtain ⟨items', ei', hlen, w1⟩ := q1
  rw [ei] at ei'
  cases ei'
  generalize hturn : (fun (x : Mp.D) (st2 : Stt) (R : Stt → Prop) => ∃ e', tgS tg x st2.e = some e' ∧ wSs C tb ⟨e', st2.h⟩ { nx := R, rt := E.rt, bk := E.nx, ct := R, ex := E.ex }) = turn at w1
  have hu : ∀ x st2 R, turn x st2 R = (∃ e', tgS tg x st2.e = some e' ∧ wSs C tb ⟨e', st2.h⟩ { nx := R, rt := E.rt, bk := E.nx, ct := R, ex := E.ex }) := fun x st2 R => by rw [← hturn]
  let Inv' : Nat → Nat → L2.St → Hp → Prop := fun i mm s' H' => mm = items.length - i ∧ i ≤ items.length ∧ ∃ (g' : Gh) (st' : Stt), Abs (kz X) g' st' s' H' ∧ Ext g1 st1.h.length H1 g' st'.h.length H' ∧ forLoop turn (items.drop i) st' E.nx
  refine ⟨Inv', ⟨items.length, by simp, Nat.zero_le _, g1, st1, A1, Ext.refl _ _ _, w1⟩, fun i mm s' H' ⟨em, hi, g', st', A', x', l'⟩ => ?_⟩
  have kp' := x'.kp A1.mw
  by_cases hlt : i < items.length
  · rw [List.drop_eq_getElem_cons hlt] at l'
    have l2 : turn items[i] st' fun st2 => forLoop turn (items.drop (i + 1)) st2 E.nx := l'
    rw [hu] at l2
    obtain ⟨e', he', w2⟩ := l2
    obtain ⟨go, yl⟩ := (it _ _ _ kp' i).1 _ (List.getElem?_eq_getElem hlt)
    refine .inr ⟨go, Inv' (i + 1) (items.length - (i + 1)), fun s2 H2 z => ⟨_, by omega, z⟩, fun v H2 y => ?_⟩
    obtain ⟨e2, rv⟩ := yl v H2 y
    subst e2
    refine ⟨g', st', _, e', A', rv, he', fun s2 A2 _ => ?_⟩
    refine ⟨g', ⟨e', st'.h⟩, _, A2, w2, fun st3 s3 g3 H3 q x3 A3 => ⟨rfl, hlt, g3, st3, A3, x'.trans x3, q⟩, fun _ _ _ _ _ _ q x A r => hr _ _ _ _ _ _ q ((x1.trans x').trans x) A r, fun _ _ _ _ q x A => hn _ _ _ _ q ((x1.trans x').trans x) A,
      fun st3 s3 g3 H3 q x3 A3 => ⟨rfl, hlt, g3, st3, A3, x'.trans x3, q⟩, fun _ _ _ _ _ _ _ _ q x A r => hx _ _ _ _ _ _ _ _ q ((x1.trans x').trans x) A r⟩
  · have ei2 : i = items.length := by omega
    subst ei2
    have l2 : E.nx st' := by simpa [forLoop] using l'
    exact .inl ⟨(it _ _ _ kp' _).2 (Nat.le_refl _), hn _ _ _ _ l2 (x1.trans x') A'⟩
end
end Mp
namespace Mp
open PySem PySem.Spec L2
/-! ### methods of texts -/
section
variable {X : Cx} {ER : ExT} {Wx : WX} {C : Calls} {m : Bool}
/-- 'z'.name(e) -/
theorem se_mtC {id : String} {o : Op} {r : V → List V → Hp → VK → Prop} {name z : Str} {j : Nat} {e : Expr} {te : Ex} {p apos pos : Pos} (slot : Slot "str" name id) (hty : typeOf (.builtin id) = pure (.type "method_descriptor")) (hm : MtR X id r)
    (hr : ∀ {s H Q x y}, OpPost (kz X) s o m [x, y] H Q → r x [y] H Q) (he : SO X ER Wx C e te) (hs : notStar e = true) (hl : (apos.endLine == pos.line) = true) :
    SE X ER Wx C (.Call (.Attribute (.Constant (.str z) j p) name apos) [e] [] pos) (.op o [.con (.str z), te]) m := by
  have hst : ([e] : List Expr).all notStar = true := by simp [hs]
  refine peImp (pe_bm PySem.F.plainAttrs_str slot hty hm pe_str (pa_cons he pa_nil (star_of hs _ _)) (base_of rfl _ _ _) (few_of hst (by simp) _ _) hl (star_of hs _ _) rfl) fun s H Q h => ⟨rfl, ?_⟩
  have h1 := rdE_con (m := false) (d := .str z) (v := .str z) (rdE_op2 h) (fun _ _ _ => rfl) (.inl rfl)
  exact rdO_mono h1 fun y H1 h2 => hr h2
/-- e.name('z') -/
theorem se_mtA {id : String} {o : Op} {r : V → List V → Hp → VK → Prop} {name z : Str} {j : Nat} {e : Expr} {te : Ex} {p apos pos : Pos} (slot : Slot "str" name id) (hty : typeOf (.builtin id) = pure (.type "method_descriptor")) (hm : MtR X id r)
    (hr : ∀ {s H Q x y}, OpPost (kz X) s o m [x, y] H Q → r x [y] H Q) (hx : ∀ {x ys H Q}, r x ys H Q → ∃ a, x = .str a) (he : SO X ER Wx C e te) (hb : baseOk e = true) (hl : (apos.endLine == pos.line) = true) :
    SE X ER Wx C (.Call (.Attribute e name apos) [.Constant (.str z) j p] [] pos) (.op o [te, .con (.str z)]) m := by
  refine peImp (pe_bm PySem.F.plainAttrs_str slot hty hm he (pa_cons pe_str pa_nil (star_of rfl _ _)) (base_of hb _ _ _) (few_of rfl (by simp) _ _) hl (star_of rfl _ _) rfl) fun s H Q h => ?_
  refine rdO_mono (rdE_op2 h) fun x H1 h1 => ?_
  have h2 := hr (rdE_con (m := false) (d := .str z) (v := .str z) h1 (fun _ _ _ => rfl) (.inl rfl))
  obtain ⟨a, rfl⟩ := hx h2
  exact ⟨rfl, h2⟩
/-- 'z'.index(e), found -/
theorem se_index {z : Str} {j : Nat} {e : Expr} {te : Ex} {p apos pos : Pos} (hc : X.calm = true) (tk : Takes X Wx) (he : SO X ER Wx C e te) (hs : notStar e = true) (hl : (apos.endLine == pos.line) = true) :
    SE X ER Wx C (.Call (.Attribute (.Constant (.str z) j p) "index" apos) [e] [] pos) (.op .index [.con (.str z), te]) false := by
  have hst : ([e] : List Expr).all notStar = true := by simp [hs]
  refine peImp (pe_bmS PySem.F.plainAttrs_str PySem.F.slot_str_index PySem.F.type_str_index (mt_indexX hc tk) pe_str (pa_cons he pa_nil (star_of hs _ _)) (base_of rfl _ _ _) (few_of hst (by simp) _ _) hl (star_of hs _ _) rfl) fun s H Q h => ⟨rfl, ?_⟩
  have h1 := rdE_con (m := false) (d := .str z) (v := .str z) (rdE_op2 h) (fun _ _ _ => rfl) (.inl rfl)
  exact rdO_mono h1 fun y H1 h2 => post_index h2
/-! ### a, b = e, f -/
theorem setSs_abs {K : Kc} {g : Gh} {H : Hp} : ∀ {is : List Nat} {ds : List D} {vs : List V} {e e' : List Sl} {h : List CO} {s : L2.St}, Abs K g ⟨e, h⟩ s H → Reps K g h.length H ds vs → setSs is ds e = some e' →
    Abs K g ⟨e', h⟩ ((is.zip vs).foldl (fun s p => s.set p.1 (some p.2)) s) H
  | [], [], vs, e, e', h, s, A, r, q => by
    cases r; cases q; exact A
  | i :: is, d :: ds, _, e, e', h, s, A, ⟨v, w, ev, r, rs⟩, q => by
    subst ev
    have A2 : Abs K g ⟨e.set i (.shr d), h⟩ (s.set i (some v)) H := A.setS r
    exact setSs_abs (is := is) (ds := ds) (vs := w) A2 rs q
  | [], _ :: _, _, _, _, _, _, _, _, q => by cases q
  | _ :: _, [], _, _, _, _, _, _, _, q => by cases q
theorem rdSt_par {K : Kc} {D : Ends} {s : L2.St} {H : Hp} {is : List Nat} {ts : List Ex} (hl : is.length = ts.length) (h : rdSt K ER Wx m (wS C (.par is ts)) D s H) :
    rdL K ER Wx ts.length (wL C ts) s H fun vs H1 => vs.length = is.length ∧ D.nx ((is.zip vs).foldl (fun s p => s.set p.1 (some p.2)) s) H1 := by
  obtain ⟨g, st, E, A, w, hn, hr, hb, hc, hx⟩ := h
  simp only [wS] at w
  refine ⟨g, st, _, _, A, w, fun ds st1 vs g1 H1 ⟨e', e1, q⟩ x1 A1 r1 hl2 => ⟨by rw [hl2, hl], ?_⟩, fun c fs st' cls dd g' H' q x A' r => hx _ _ _ _ _ _ _ _ q x A' r⟩
  exact hn _ _ _ _ q x1 (setSs_abs A1 r1 e1)
theorem ss_par2 {x y : Str} {i j : Nat} {a b : Expr} {ts : List Ex} {px py pt pt2 pos : Pos} {kt k2 : Nat} (hc : X.calm = true) (hN : X.N.Nodup) (hi : X.N[i]? = some x) (hj : X.N[j]? = some y) (hij : i ≠ j) (hx : X.env.scope.names.lookup x = some .local) (hy : X.env.scope.names.lookup y = some .local)
    (ha : SL X ER Wx C [a, b] ts) (hl : ts.length = 2) (hw : swappedStores [.Tuple [.Name x px, .Name y py] kt pt] (.Tuple [a, b] k2 pt2) X.env = pure (some [x, y])) :
    SS X ER Wx C m (.Assign [.Tuple [.Name x px, .Name y py] kt pt] (.Tuple [a, b] k2 pt2) pos) (.par [i, j] ts) :=
  psImp (ps_par hc hN hi hj hij hx hy ha hw) fun D s H h => rdL_mono (rdSt_par (by rw [hl]; rfl) h) fun vs H1 ⟨q1, q2⟩ => by
    match vs, q1, q2 with
    | [u, v], _, q2 => exact ⟨u, v, rfl, q2⟩
theorem ss_par3 {x y z : Str} {i j l : Nat} {a b c : Expr} {ts : List Ex} {px py pz pt pt2 pos : Pos} {kt k2 : Nat} (hc : X.calm = true) (hN : X.N.Nodup) (hi : X.N[i]? = some x) (hj : X.N[j]? = some y) (hz0 : X.N[l]? = some z) (hij : i ≠ j) (hil : i ≠ l) (hjl : j ≠ l)
    (hx : X.env.scope.names.lookup x = some .local) (hy : X.env.scope.names.lookup y = some .local) (hz : X.env.scope.names.lookup z = some .local)
    (ha : SL X ER Wx C [a, b, c] ts) (hl : ts.length = 3) (hw : swappedStores [.Tuple [.Name x px, .Name y py, .Name z pz] kt pt] (.Tuple [a, b, c] k2 pt2) X.env = pure (some [x, y, z])) :
    SS X ER Wx C m (.Assign [.Tuple [.Name x px, .Name y py, .Name z pz] kt pt] (.Tuple [a, b, c] k2 pt2) pos) (.par [i, j, l] ts) :=
  psImp (ps_par3 hc hN hi hj hz0 hij hil hjl hx hy hz ha hw) fun D s H h => rdL_mono (rdSt_par (by rw [hl]; rfl) h) fun vs H1 ⟨q1, q2⟩ => by
    match vs, q1, q2 with
    | [u, v, w], _, q2 => exact ⟨u, v, w, rfl, q2⟩
end
end Mp
/-! the package's errors: class X(FigureError), whose __init__(self, f) says super().__init__(text); self.f = f -/
namespace Mp
open PySem PySem.Spec PySem.W PySem.Calls PyProof.Rows PySem.HandSPX
/-! ### what is read off the written part -/
/-- the text of __init__ -/
def initB (f : Str) (ps : Arguments) (b : FuncBody) (sc : Scope) : Bool :=
  (match ps with
  | ⟨[], [a, c], none, [], [], none, []⟩ => decide (a.arg = "self") && decide (c.arg = f)
  | _ => false) &&
  (match b with
  | .stmts [.Expr (.Call (.Attribute (.Call (.Name s0 _) [] [] _) i0 ap) [.Constant (.str _) _ _] [] cp) _, .Assign [.Attribute (.Name s1 _) g _] (.Name g' _) _] => decide (s0 = "super") && decide (i0 = "__init__") && decide (s1 = "self") && decide (g = f) && decide (g' = f) && (ap.endLine == cp.line)
  | _ => false) &&
  decide (sc.kind = .function) && !sc.isGenerator && !sc.isCoroutine && sc.names.all (fun y => decide (y.2 ≠ .cell)) && decide (sc.names.lookup ("super" : Str) = some .globalImplicit) && decide (sc.names.lookup ("__class__" : Str) = some .free) &&
  decide (sc.names.lookup ("self" : Str) = some .local) && decide (sc.names.lookup f = some .local) && decide (f ≠ "self") && decide (f ≠ "__debug__")
def vsFile (vs : Array Value) (file : Str) : Bool := match vs[2]? with
  | some (Value.str z _) => file == z
  | _ => false
def fnB (K : Frag) (file f : Str) (C : Addr) (o : Option Obj) : Bool := match o with
  | some ⟨_, _, .func fd, _⟩ => initB f fd.params fd.body fd.scope && decide (fd.globals = mainGlobals) && decide (fd.builtins = builtinsNs) && decide (fd.defaults = .none) && codeIn K fd.code fd.qualname &&
    (match fd.code with
    | .ref cda => (match K.lookup cda with
      | some ⟨_, _, .fields vs, _⟩ => vsFile vs file
      | _ => false)
    | _ => false) &&
    (match fd.closure with
    | [(n, cc)] => decide (n = "__class__") && (match K.lookup cc with
      | some ⟨_, _, .cell (some (.ref D)), _⟩ => decide (D = C)
      | _ => false)
    | _ => false)
  | _ => false
def clsObjB (C : Addr) (o : Option Obj) : Bool := match o with
  | some ⟨.type "type", _, .cls cd, sl⟩ => (match cd.mro, sl.toList with
    | .ref C' :: bm, [_, _, _, _, some (.builtin n), _] => C' == C && n == "ValueError.__new__" && !cd.hasDel && cd.hasDict && refsVE bm
    | _, _ => false)
  | _ => false
/-- the error class at C, its __init__ at fI, its field f -/
def errB (K : Frag) (file f : Str) (C fI : Addr) : Bool :=
  clsObjB C (K.lookup C) && fnB K file f C (K.lookup fI) &&
  He.eqO (findIn K (.ref C) "__setattr__") (some (some (.builtin "object.__setattr__"))) && He.eqO (findIn K (.ref C) "__getattribute__") (some (some (.builtin "BaseException.__getattribute__"))) &&
  He.eqO (findIn K (.ref C) "__getattr__") (some none) && He.eqO (findIn K (.ref C) f) (some none) && He.eqO (findIn K (.ref C) "__init__") (some (some (.ref fI))) &&
  decide (typeIn K (.ref fI) = some (.type "function")) && keepIn K (.ref C) && decide (subIn K (.ref C) (.type "BaseException") = some true) && decide (subIn K (.ref C) (.type "ValueError") = some true) &&
  decide (typeIn K (.ref C) = some (.type "type")) && hasDictIn K C && decide (mroIn K C (.ref C) = some true) && He.eqO (ks_superIn K C C "__init__") (some (some (.builtin "ValueError.__init__"))) &&
  He.eqO (nsIn K mainGlobals "super") (some none) && He.eqO (nsIn K cStatics "thirdparty.any") (some none)
structure ErrT (K : Frag) (file f : Str) (C fI : Addr) : Prop where
  cls : ∃ nm q N bs bm sn sub ab col dd k0 k1 k2 k3 k5, K.lookup C = some (excClassObj nm q C N bs bm true sn sub ab col dd k0 k1 k2 k3 k5 "ValueError.__new__") ∧ refsVE bm = true
  sa : findIn K (.ref C) "__setattr__" = some (some (.builtin "object.__setattr__"))
  ga : findIn K (.ref C) "__getattribute__" = some (some (.builtin "BaseException.__getattribute__"))
  gg : findIn K (.ref C) "__getattr__" = some none
  noN : findIn K (.ref C) f = some none
  iC : findIn K (.ref C) "__init__" = some (some (.ref fI))
  tC : typeIn K (.ref fI) = some (.type "function")
  kC : keepIn K (.ref C) = true
  exC : subIn K (.ref C) (.type "BaseException") = some true
  veC : subIn K (.ref C) (.type "ValueError") = some true
  tyC : typeIn K (.ref C) = some (.type "type")
  hdC : hasDictIn K C = true
  moC : mroIn K C (.ref C) = some true
  suC : ks_superIn K C C "__init__" = some (some (.builtin "ValueError.__init__"))
  sup : nsIn K mainGlobals "super" = some none
  opq : nsIn K cStatics "thirdparty.any" = some none
  fn : ∃ (oc : Value) (od : Option Addr) (osl : Array (Option Value)) (nm q : Str) (p1 p2 : Arg) (sc : Scope) (kV doc pm : Value) (an : Option Addr) (ct : Value) (cda cc : Addr) (z : Str) (j : Nat) (b0 b1 b2 b3 b4 b5 q1 q2 q3 q4 : Pos),
    K.lookup fI = some ⟨oc, od, .func (ksFn nm q ⟨[], [p1, p2], none, [], [], none, []⟩ [.Expr (.Call (.Attribute (.Call (.Name "super" b0) [] [] b1) "__init__" b2) [.Constant (.str z) j b3] [] b4) b5, .Assign [.Attribute (.Name "self" q1) f q2] (.Name f q3) q4] sc .none kV doc pm an (.ref cda) ct cc), osl⟩ ∧
    p1.arg = "self" ∧ p2.arg = f ∧ sc.kind = .function ∧ sc.isGenerator = false ∧ sc.isCoroutine = false ∧ (∀ y ∈ sc.names, y.2 ≠ .cell) ∧ sc.names.lookup ("super" : Str) = some .globalImplicit ∧ sc.names.lookup ("__class__" : Str) = some .free ∧
    sc.names.lookup ("self" : Str) = some .local ∧ sc.names.lookup f = some .local ∧ f ≠ "self" ∧ f ≠ "__debug__" ∧ (b2.endLine == b4.line) = true ∧ codeIn K (.ref cda) q = true ∧
    (∃ ccl cdd vs ccs file' tf, K.lookup cda = some ⟨ccl, cdd, .fields vs, ccs⟩ ∧ vs[2]? = some (.str file' tf) ∧ (file == file') = true) ∧ ∃ cl cld csl, K.lookup cc = some ⟨cl, cld, .cell (some (.ref C)), csl⟩
theorem clsObj_of {C : Addr} {o : Option Obj} (h : clsObjB C o = true) : ∃ nm q N bs bm sn sub ab col dd k0 k1 k2 k3 k5, o = some (excClassObj nm q C N bs bm true sn sub ab col dd k0 k1 k2 k3 k5 "ValueError.__new__") ∧ refsVE bm = true := by
  unfold clsObjB at h
  split at h
  · rename_i dd cd sl
    split at h
    · rename_i C' bm k0 k1 k2 k3 n k5 hm hs
      simp only [Bool.and_eq_true, beq_iff_eq, Bool.not_eq_true'] at h
      obtain ⟨⟨⟨⟨rfl, rfl⟩, hdel⟩, hd⟩, ht⟩ := h
      obtain ⟨nm, bs, mro, ns, qn, hd', sn, sub, ab, col, del⟩ := cd
      dsimp only at hm hdel hd
      subst hm hdel hd
      have hsl : sl = #[k0, k1, k2, k3, some (.builtin "ValueError.__new__"), k5] := by
        obtain ⟨l⟩ := sl
        simp only at hs
        rw [hs]
      subst hsl
      exact ⟨nm, qn, ns, bs, bm, sn, sub, ab, col, dd, k0, k1, k2, k3, k5, rfl, ht⟩
    · cases h
  · cases h
theorem fn_of_B {K : Frag} {file f : Str} {C : Addr} {o : Option Obj} (h : fnB K file f C o = true) : ∃ (oc : Value) (od : Option Addr) (osl : Array (Option Value)) (nm q : Str) (p1 p2 : Arg) (sc : Scope) (kV doc pm : Value) (an : Option Addr) (ct : Value) (cda cc : Addr) (z : Str) (j : Nat) (b0 b1 b2 b3 b4 b5 q1 q2 q3 q4 : Pos),
    o = some ⟨oc, od, .func (ksFn nm q ⟨[], [p1, p2], none, [], [], none, []⟩ [.Expr (.Call (.Attribute (.Call (.Name "super" b0) [] [] b1) "__init__" b2) [.Constant (.str z) j b3] [] b4) b5, .Assign [.Attribute (.Name "self" q1) f q2] (.Name f q3) q4] sc .none kV doc pm an (.ref cda) ct cc), osl⟩ ∧
    p1.arg = "self" ∧ p2.arg = f ∧ sc.kind = .function ∧ sc.isGenerator = false ∧ sc.isCoroutine = false ∧ (∀ y ∈ sc.names, y.2 ≠ .cell) ∧ sc.names.lookup ("super" : Str) = some .globalImplicit ∧ sc.names.lookup ("__class__" : Str) = some .free ∧
    sc.names.lookup ("self" : Str) = some .local ∧ sc.names.lookup f = some .local ∧ f ≠ "self" ∧ f ≠ "__debug__" ∧ (b2.endLine == b4.line) = true ∧ codeIn K (.ref cda) q = true ∧
    (∃ ccl cdd vs ccs file' tf, K.lookup cda = some ⟨ccl, cdd, .fields vs, ccs⟩ ∧ vs[2]? = some (.str file' tf) ∧ (file == file') = true) ∧ ∃ cl cld csl, K.lookup cc = some ⟨cl, cld, .cell (some (.ref C)), csl⟩ := by
  unfold fnB at h
  split at h
  · rename_i oc od fd osl
    obtain ⟨nm, q, ps, b, sc, gl, clo, dV, kV, doc, pm, an, cdv, ct, bl⟩ := fd
    simp only [Bool.and_eq_true, decide_eq_true_eq] at h
    obtain ⟨⟨⟨⟨⟨⟨h1, h2⟩, h3⟩, h4⟩, h5⟩, h6⟩, h7⟩ := h
    subst h2 h3 h4
    unfold initB at h1
    simp only [Bool.and_eq_true, decide_eq_true_eq, Bool.not_eq_true', List.all_eq_true] at h1
    obtain ⟨⟨⟨⟨⟨⟨⟨⟨⟨⟨⟨g1, g2⟩, g3⟩, g4⟩, g5⟩, g6⟩, g7⟩, g8⟩, g9⟩, g10⟩, g11⟩, g12⟩ := h1
    split at g1
    · rename_i a c
      simp only [Bool.and_eq_true, decide_eq_true_eq] at g1
      split at g2
      · rename_i s0 b0 b1 i0 b2 z j b3 b4 b5 s1 q1 g q2 g' q3 q4
        simp only [Bool.and_eq_true, decide_eq_true_eq] at g2
        obtain ⟨⟨⟨⟨⟨rfl, rfl⟩, rfl⟩, rfl⟩, rfl⟩, g20⟩ := g2
        split at h6
        · rename_i cda
          split at h6
          · rename_i ccl cdd vs ccs hv
            split at h7
            · rename_i n cc
              simp only [Bool.and_eq_true, decide_eq_true_eq] at h7
              obtain ⟨rfl, h7⟩ := h7
              split at h7
              · rename_i cl cld D csl hc
                have hD : D = C := of_decide_eq_true h7
                subst hD
                unfold vsFile at h6
                split at h6
                · rename_i file' tf hf
                  exact ⟨oc, od, osl, nm, q, a, c, sc, kV, doc, pm, an, ct, cda, cc, z, j, b0, b1, b2, b3, b4, b5, q1, q2, q3, q4, rfl, g1.1, g1.2, g3, g4, g5, g6, g7, g8, g9, g10, g11, g12, g20, h5, ⟨ccl, cdd, vs, ccs, file', tf, hv, hf, h6⟩, cl, cld, csl, hc⟩
                · cases h6
              · cases h7
            · cases h7
          · cases h6
        · cases h6
      · cases g2
    · cases g1
  · cases h
theorem errB_ok {K : Frag} {file f : Str} {C fI : Addr} (h : errB K file f C fI = true) : ErrT K file f C fI := by
  unfold errB at h
  simp only [Bool.and_eq_true, decide_eq_true_eq] at h
  obtain ⟨⟨⟨⟨⟨⟨⟨⟨⟨⟨⟨⟨⟨⟨⟨⟨h1, h2⟩, h3⟩, h4⟩, h5⟩, h6⟩, h7⟩, h8⟩, h9⟩, h10⟩, h11⟩, h12⟩, h13⟩, h14⟩, h15⟩, h16⟩, h17⟩ := h
  exact ⟨clsObj_of h1, He.eqO_ok h3, He.eqO_ok h4, He.eqO_ok h5, He.eqO_ok h6, He.eqO_ok h7, h8, h9, h10, h11, h12, h13, h14, He.eqO_ok h15, He.eqO_ok h16, He.eqO_ok h17, fn_of_B h2⟩
theorem mcall_eq {o : Expr} {m : Str} {apos pos : Pos} {args : List Expr} {env : Env} (hf : methodCallForm args.length (backTo pos (starEach args env)) [] = true) (hl : (apos.endLine == pos.line) = true) :
    eval (.Call (.Attribute o m apos) args [] pos) env = (do
      let ov ← attributeBase o m env (eval o env)
      standAt apos.atName
      let (f, first) ← holding [ov] (getMethod ov m (do return (← importBound o env).getD true))
      callWith pos f first (backTo pos (starEach args env)) []) := by
  rw [arm_eval_Call]
  congr 1
  funext ov
  congr 1
  funext _
  show methodCall o m apos pos env ov args.length (backTo pos (starEach args env)) [] = _
  unfold methodCall calleeOf methodCallPos
  rw [hf, hl]
  rfl
/-! ### __init__ runs -/
theorem bind_two {nm q f : Str} {p1 p2 : Arg} {body : List Stmt} {sc : Scope} {kV doc pm : Value} {an : Option Addr} {cd ct : Value} {cc : Addr} {x v : Value} (e1 : p1.arg = "self") (e2 : p2.arg = f) (hf : f ≠ "self") :
    bindArgs (ksFn nm q ⟨[], [p1, p2], none, [], [], none, []⟩ body sc .none kV doc pm an cd ct cc) ⟨[x, v], []⟩ = pure [(("self" : Str), x), (f, v)] := by
  have h1 : (f == ("self" : Str)) = false := by simpa using hf
  have h2 : (("self" : Str) == f) = false := by simpa using fun z => hf z.symm
  have h3 : seqItems? Value.none = (pure none : Sem (Option (Array Value))) := by first | rfl | kernel_rfl
  unfold bindArgs
  simp only [ksFn, fnX, h3, pure_bind, bind_pure_comp, List.map_cons, List.map_nil, List.nil_append, e1, e2, List.zip_cons_cons, List.zip_nil_right, List.length_cons, List.length_nil]
  simp [List.lookup, h1, h2]

/-- what __init__ leaves of a fresh exception at x -/
structure InitEnd (h h' : Heap) (x C dx : Addr) (f : Str) (v : Value) : Prop where
  keep : ∀ b o, b ≠ x → h.get? b = some o → h'.get? b = some o
  obj : ∃ t1, h'.get? x = some { cls := .ref C, dict := some dx, data := .fields #[.ref t1, .none, .none, .none, .bool false, .none] }
  dbig : h.objs.size ≤ dx
  dne : dx ≠ x
  ns : h'.Ns1 dx (fun y => if y = f then some v else none)
theorem kept_but {K : Frag} {h h' : Heap} {x : Addr} (X : K.In h) (hx : K.lookup x = none) (k : ∀ b o, b ≠ x → h.get? b = some o → h'.get? b = some o) : K.In h' := fun a o e =>
  k a o (fun z => by rw [z, hx] at e; cases e) (X a o e)
theorem ldE {M : Model} {s : Shared} {name : Str} {scope : Scope} {L a cc : Addr} {cd : Value} {m : Str → Option Value} {x : Str} {pos : Pos} {v : Value} {Q : Value → Shared → Prop} {A : Around} {E : Value → Shared → Prop} (hn : s.heap.Ns L m) (hv : m x = some v) (h : Q v s)
    (hk : scope.kind = .function) (hl : scope.names.lookup x = some .local) (hd : (x == ("__debug__" : Str)) = false) :
    wpAny M A (eval (.Name x pos) (ksEnv name scope L a cd cc)) Q E s := wpAny_Name (wpAny_loadName_local hk hl hn hv h) hd
section
variable {prog : Program} {w : World} {A : Around} {E : Value → Shared → Prop} {R : Result → Shared → Prop} {s : Shared} {K : Frag} {mg mb : Str → Option Value} {C fI : Addr} {f : Str}
theorem err_init (T : ErrT K prog.main.file f C fI) {x t0 : Addr} {v : Value} (X : K.In s.heap) (hlim : s.heap.NoLimit) (Hg : s.heap.Ns mainGlobals mg) (Hb : s.heap.Ns builtinsNs mb) (hmb : mb "super" = bootBuiltins "super") (htop : (prog.main.scope.names.lookup ("super" : Str)).isSome = false)
    (hx : s.heap.get? x = some (excO C t0)) (hnx : K.lookup x = none) (hroom : A.depth < recursionLimit)
    (hq : ∀ h' tk dx, InitEnd s.heap h' x C dx f v → R (.ok (.ret .none)) { s with heap := h', toks := tk }) :
    codeAny (model prog w) A (.call (.ref fI) ⟨[.ref x, v], []⟩) R s := by
  obtain ⟨oc, od, osl, nm, q, p1, p2, sc, kV, doc, pm, an, ct, cda, cc, z, j, b0, b1, b2, b3, b4, b5, q1, q2, q3, q4, ho, e1, e2, hk, hgen, hco, hcell, hks, hkc, hself, hf, fs, fdb, hline, hcd, ⟨ccl, cdd, vs, ccs, file', tf, hcode, hvs, hfile⟩, cl, cld, csl, hcc⟩ := T.fn
  obtain ⟨nm', q', N, bs, bm, sn, sub, ab, col, dd, k0, k1, k2, k3, k5, hC, hbm⟩ := T.cls
  have hcl : clsIn K C = some { name := nm', bases := bs, mro := .ref C :: bm, ns := N, qualname := q', hasDict := true, slotNames := sn, subclasses := sub, abstract := ab, collection := col, hasDel := false } := by unfold clsIn; rw [hC]
  have hbind : BindsTo s (ksFn nm q ⟨[], [p1, p2], none, [], [], none, []⟩ [.Expr (.Call (.Attribute (.Call (.Name "super" b0) [] [] b1) "__init__" b2) [.Constant (.str z) j b3] [] b4) b5, .Assign [.Attribute (.Name "self" q1) f q2] (.Name f q3) q4] sc .none kV doc pm an (.ref cda) ct cc) ⟨[.ref x, v], []⟩ [("self", .ref x), (f, v)] := by
    exact .of_eq (bind_two e1 e2 fs)
  have hloc : ∀ y ∈ [(("self" : Str), Value.ref x), (f, v)], sc.names.lookup y.1 = some .local := fun y hy => by
    simp only [List.mem_cons, List.not_mem_nil, or_false] at hy
    rcases hy with rfl | rfl
    · exact hself
    · exact hf
  refine ks_codeAny_call_defAt hroom (X _ _ ho) rfl hlim (codeRec_of X hcd) rfl hbind hcell hloc (fun h₀ hns keep => ?_) hco hgen hk
  have X₀ : K.In h₀ := X.keeps keep
  have hx₀ := keep _ _ hx
  have hL : s.heap.objs.size < h₀.objs.size := hns.lt
  have hxL : s.heap.objs.size ≠ x := Nat.ne_of_gt (Heap.lt_size hx)
  have hC₀ : h₀.get? C = some _ := X₀ _ _ hC
  -- super().__init__(text)
  have hint : interactive (ksEnv q sc s.heap.objs.size fI (.ref cda) cc) = false := by unfold interactive; show (sc.kind == _ && _) = false; rw [hk]; rfl
  show PySem.wpAt _ _ _ (execs _ (ksEnv q sc s.heap.objs.size fI (.ref cda) cc)) _ _ _
  refine ks_wpAt_execs_cons (ks_wpAt_Expr_any (ks_wpAt_MethodCall (pl := (do return (← importBound (.Call (.Name "super" b0) [] [] b1) (ksEnv q sc s.heap.objs.size fI (.ref cda) cc)).getD true)) ?_ (mcall_eq rfl hline)) hint (swaps_of rfl _ _ _))
  refine ks_wpAt_super_base (env := ksEnv q sc s.heap.objs.size fI (.ref cda) cc) (ar := p1) hks hkc (by decide) rfl (X₀ _ _ ho) rfl rfl rfl (X₀ _ _ hcode) rfl hvs hfile htop ?_
  refine ks_loadName_global hk hks (loadGlobal_builtin (env := ksEnv q sc s.heap.objs.size fI (.ref cda) cc) (mg := mg) (mb := mb) (Hg.keeps keep) (mg_none_of X Hg T.sup) (Hb.keeps keep) (hmb.trans (by decide +kernel)) ⟨rfl, ?_⟩)
  refine wpAny_loadName_free hk hkc rfl ⟨_, X₀ _ _ hcc, rfl⟩ ?_
  have hns' : h₀.Ns s.heap.objs.size (fun y => [(("self" : Str), Value.ref x), (f, v)].reverse.lookup y) := hns
  have hs1 : ([(("self" : Str), Value.ref x), (f, v)].reverse.lookup ("self" : Str)) = some (.ref x) := by
    have h2 : (("self" : Str) == f) = false := by simpa using fun z => fs z.symm
    simp [List.lookup, h2]
  have hs2 : ([(("self" : Str), Value.ref x), (f, v)].reverse.lookup f) = some v := by simp [List.lookup]
  rw [e1]
  refine wpAny_loadName_local hk hself hns' hs1 ?_
  refine ks_wpAny_isType_cls hC₀ rfl ⟨rfl, ?_⟩
  refine ks_wpAny_call_super hC₀ rfl hx₀ rfl (fun c e => by cases e) (looks_mroIn X₀ T.moC) (fun h1 eso k1 => ?_)
  have X₁ : K.In h1 := X₀.keeps k1
  have hx₁ := k1 _ _ hx₀
  -- the method
  refine kxs_getMethod kxs_ValueError eso (looks_opaque X₁ T.opq) (l₀ := .ref C :: bm) ?_ rfl X₁ ?_ ?_ ?_ (by decide) ?_
  · exact fun A Q E s k q => wpAny_bind ((looks_clsIn X₁ hcl) A _ E s k (wpAny_pure q))
  · have z := T.suC
    unfold ks_superIn at z
    rw [hcl] at z
    exact z
  · have I : InstAt h1 x (excO C t0) C none := ⟨hx₁, rfl, rfl, trivial⟩
    exact I.type.andThen (looks_subIn X₁ T.veC)
  · intro z
    rw [z, hC] at hnx
    cases hnx
  have k2 : ∀ b o, h1.get? b = some o → (h1.push (kxs_mw "ValueError.__init__" x)).get? b = some o := fun b o e => Heap.get?_push_of_some _ e
  have hu : (h1.push (kxs_mw "ValueError.__init__" x)).get? h1.objs.size = some (kxs_mw "ValueError.__init__" x) := Heap.get?_push_at rfl rfl
  refine kxs_callWith (i := "ValueError.__init__") (x := x) rfl ?_
  refine Calls.evalArgs_plain ?_
  refine Calls.spliced_cons ?_
  show wpAny _ _ (eval (.Constant (.str z) j b3) (ksEnv q sc s.heap.objs.size fI (.ref cda) cc)) _ _ _
  refine Calls.Constant_str (Calls.spliced_nil ⟨hu, ?_⟩)
  -- its call: the arguments are laid anew
  have hC₂ := k2 _ _ (X₁ _ _ hC)
  have hx₂ := k2 _ _ hx₁
  refine wpAny_call (codeAny_of_tree ?_)
  show wpAny _ _ (callAny (.ref h1.objs.size) ⟨_, []⟩) _ _ _
  simp only [callAny]
  refine wpAny_bind (wpAny_load hu ?_)
  simp only [kxs_mw, show (Value.type "method-wrapper" == Value.type "method" || Value.type "method-wrapper" == Value.type "builtin_function_or_method" || Value.type "method-wrapper" == Value.type "method-wrapper") = true by decide, if_true]
  refine KFB.if_so (by decide) ?_
  refine wpAny_bind (check_bound_init F.excBase_ValueError.toExcCallFacts hC₂ hx₂ rfl ?_)
  refine wpAny_bind (wpAny_pure (wpAny_pure ?_))
  refine ⟨plainId_quiet F.excBase_ValueError.init.plain _, codeAny_builtin F.excBase_ValueError.initEntry ?_⟩
  refine exc_init_tree (cls := .ref C) (t0 := t0) (dv := none) (c2 := .none) (c3 := .none) (b4 := .bool false) hx₂ (by rw [sizeLine_eq]; show 1 ≤ 16777216; decide) fun h3 k3 hx₃ _ => ?_
  -- self.f = f
  have kk : ∀ b o, b ≠ x → h₀.get? b = some o → h3.get? b = some o := fun b o hb e => k3 b o hb (k2 b o (k1 b o e))
  have X₃ : K.In h3 := kept_but X₀ hnx kk
  have hn₃ : h3.Ns s.heap.objs.size (fun y => [(("self" : Str), Value.ref x), (f, v)].reverse.lookup y) := by
    obtain ⟨oL, es, ep, hL', r⟩ := hns'
    exact ⟨oL, es, ep, kk _ _ hxL hL', r⟩
  have fdb' : (f == ("__debug__" : Str)) = false := by simpa using fdb
  show PySem.wpAt _ _ _ (execs [.Assign [.Attribute (.Name "self" q1) f q2] (.Name f q3) q4] (ksEnv q sc s.heap.objs.size fI (.ref cda) cc)) _ _ _
  refine ks_wpAt_execs_cons (wpAt_of_wpAny (plainObj_wpAny_Assign_Attribute ?_ (swaps_of rfl _ _ _)))
  refine ldE (v := v) hn₃ hs2 (ldE (v := .ref x) hn₃ hs1 ?_ hk hself (by decide)) hk hf fdb'
  refine set_plain X₃ (ox := excO C (h1.push (kxs_mw "ValueError.__init__" x)).objs.size) (od := none) ⟨hx₃, rfl, rfl, trivial⟩ T.sa ?_
  refine exc_osa X₃ hx₃ hcl (show refsVE (.ref C :: bm) = true from hbm) rfl T.noN (fun h₄ tk₄ dx k₄ dn dne hx₄ hn₄ => ?_)
  have L3 : s.heap.objs.size < h3.objs.size := hn₃.lt
  refine wpAt_of_wpAny (wpAny_execs_nil (hq h₄ tk₄ dx ⟨fun b o hb e => k₄ b o hb (kk b o hb (keep b o e)), ⟨_, hx₄⟩, Nat.le_of_lt (Nat.lt_of_lt_of_le L3 dn), dne, hn₄⟩))
/-- a made error -/
structure OwnMade (h h' : Heap) (e C d : Addr) (f : Str) (v : Value) : Prop where
  keep : ∀ b o, h.get? b = some o → h'.get? b = some o
  new : h.objs.size ≤ e
  obj : ∃ oe vs, h'.get? e = some oe ∧ oe.cls = .ref C ∧ oe.dict = some d ∧ oe.data = .fields vs ∧ vs[1]? = some .none
  dbig : h.objs.size ≤ d
  dne : d ≠ e
  ns : h'.Ns1 d (fun y => if y = f then some v else none)
theorem one_size (v : Value) : [v].length ≤ sizeLine := by
  rw [sizeLine_eq]
  exact (by decide : 1 ≤ 16777216)
theorem err_made (T : ErrT K prog.main.file f C fI) {v : Value} (X : K.In s.heap) (hlim : s.heap.NoLimit) (Hg : s.heap.Ns mainGlobals mg) (Hb : s.heap.Ns builtinsNs mb) (hmb : mb "super" = bootBuiltins "super") (htop : (prog.main.scope.names.lookup ("super" : Str)).isSome = false)
    (hroom : A.depth + 1 < recursionLimit) (hq : ∀ h' tk e d, OwnMade s.heap h' e C d f v → R (.ok (.ret (.ref e))) { s with heap := h', toks := tk }) :
    codeAny (model prog w) A (.call (.ref C) ⟨[v], []⟩) R s := by
  obtain ⟨nm, q, N, bs, bm, sn, sub, ab, col, dd, k0, k1, k2, k3, k5, hC, hbm⟩ := T.cls
  obtain ⟨hp, g, dr, tk, os⟩ := s
  have k : ∀ b o, hp.get? b = some o → ((hp.push (kdv_tup [v])).push (excO C hp.objs.size)).get? b = some o := fun b o e => Heap.get?_push_of_some _ (Heap.get?_push_of_some _ e)
  have hget : ((hp.push (kdv_tup [v])).push (excO C hp.objs.size)).get? (hp.objs.size + 1) = some (excO C hp.objs.size) := by heap_get
  have hnx : K.lookup (hp.objs.size + 1) = none := by
    cases e : K.lookup (hp.objs.size + 1) with
    | none => rfl
    | some o =>
      have z : hp.get? (hp.objs.size + 1) = some o := X _ _ e
      exact absurd (Nat.lt_of_succ_lt (Heap.lt_size z)) (Nat.lt_irrefl _)
  refine call_own F.excBase_ValueError (fun X => refsVE_contains X bm hbm) (X _ _ hC) (looks_findIn X T.iC) (fun self => bind_fn X self T.tC) (one_size v) ?_
  refine err_init (s := ⟨(hp.push (kdv_tup [v])).push (excO C hp.objs.size), g, dr, tk, os⟩) (mg := mg) (mb := mb) T (X.keeps k) (hlim.keeps k) (Hg.keeps k) (Hb.keeps k) hmb htop hget hnx ?_ fun h' tk' dx ⟨k', ⟨t1, hx⟩, dn, dne, hns⟩ => ?_
  · show A.depth + 1 < recursionLimit
    exact hroom
  · have old : ∀ b o, hp.get? b = some o → h'.get? b = some o := fun b o e => k' b o (Nat.ne_of_lt (Nat.lt_succ_of_lt (Heap.lt_size e))) (k b o e)
    have z : hp.objs.size + 1 + 1 ≤ dx := by
      first
        | (simpa only [Heap.size_push] using dn)
        | exact dn
        | (have q := dn; rw [Heap.size_push, Heap.size_push] at q; exact q)
    exact ⟨rfl, hq h' tk' (hp.objs.size + 1) dx ⟨old, Nat.le_succ _, ⟨_, _, hx, rfl, rfl, rfl, rfl⟩, Nat.le_trans (Nat.le_trans (Nat.le_succ _) (Nat.le_succ _)) z, dne, hns⟩⟩
end
end Mp
namespace Mp
open PySem PySem.Spec L2
/-! ### the error classes that the module has -/
/-- what reading a caught error leans on -/
def xclsB (K : PySem.W.Frag) (C : Addr) : Bool := He.eqO (PySem.W.findIn K (.ref C) "__getattribute__") (some (some (.builtin "BaseException.__getattribute__"))) && He.eqO (PySem.W.findIn K (.ref C) "__getattr__") (some none) &&
  decide (PySem.W.subIn K (.ref C) (.type "BaseException") = some true) && PySem.W.hasDictIn K C && He.eqO (PySem.W.findIn K (.ref C) "__class__") (some (some (.builtin "object.__class__"))) &&
  He.eqO (PySem.W.specialIn K (.builtin "object.__class__") "__get__") (some (some (.builtin "getset_descriptor.__get__"))) && decide (PySem.W.takesIn K (.builtin "object.__class__") = some true) && decide (PySem.W.mroIn K C (.type "object") = some true)
def errAt (K : PySem.W.Frag) (file : Str) (c : Nat) : Bool := match fldsOf c with
  | [f] => errB K file f (He.ga K (clsN c)) (He.ma K (He.ga K (clsN c)) "__init__")
  | _ => true
def ErrKit (K : PySem.W.Frag) (file : Str) : Bool := (List.range excTab.length).all fun k => !isKnownX K (100 + k) ||
  (xclsB K (He.ga K (clsN (100 + k))) && (fldsOf (100 + k)).all (fun f => He.eqO (PySem.W.findIn K (.ref (He.ga K (clsN (100 + k)))) f) (some none)) && errAt K file (100 + k) &&
   (List.range excTab.length).all (fun j => !isKnownX K (100 + j) || (decide (PySem.W.exmOne K (.ref (He.ga K (clsN (100 + k)))) (.ref (He.ga K (clsN (100 + j)))) = some (excSub (100 + k) (100 + j))) &&
     decide (PySem.W.kitOne K (.ref (He.ga K (clsN (100 + k)))) (.ref (He.ga K (clsN (100 + j)))) = some (excSub (100 + k) (100 + j))))))
structure ErrF (K : PySem.W.Frag) (file : Str) (c : Nat) : Prop where
  ga : PySem.W.findIn K (.ref (He.ga K (clsN c))) "__getattribute__" = some (some (.builtin "BaseException.__getattribute__"))
  gg : PySem.W.findIn K (.ref (He.ga K (clsN c))) "__getattr__" = some none
  ex : PySem.W.subIn K (.ref (He.ga K (clsN c))) (.type "BaseException") = some true
  hd : PySem.W.hasDictIn K (He.ga K (clsN c)) = true
  ca : PySem.W.findIn K (.ref (He.ga K (clsN c))) "__class__" = some (some (.builtin "object.__class__"))
  cn : PySem.W.specialIn K (.builtin "object.__class__") "__get__" = some (some (.builtin "getset_descriptor.__get__"))
  ct : PySem.W.takesIn K (.builtin "object.__class__") = some true
  cm : PySem.W.mroIn K (He.ga K (clsN c)) (.type "object") = some true
  no : ∀ f ∈ fldsOf c, PySem.W.findIn K (.ref (He.ga K (clsN c))) f = some none
  er : ∀ f, fldsOf c = [f] → ErrT K file f (He.ga K (clsN c)) (He.ma K (He.ga K (clsN c)) "__init__")
  em : ∀ d, isKnownX K d = true → PySem.W.exmOne K (.ref (He.ga K (clsN c))) (.ref (He.ga K (clsN d))) = some (excSub c d)
  ki : ∀ d, isKnownX K d = true → PySem.W.kitOne K (.ref (He.ga K (clsN c))) (.ref (He.ga K (clsN d))) = some (excSub c d)
theorem knownX_lt {K : PySem.W.Frag} {c : Nat} (h : isKnownX K c = true) : ∃ k, k < excTab.length ∧ c = 100 + k := by
  unfold isKnownX at h
  simp only [Bool.and_eq_true, decide_eq_true_eq] at h
  exact ⟨c - 100, by omega, by omega⟩
theorem knownX_ns {K : PySem.W.Frag} {c : Nat} (h : isKnownX K c = true) : PySem.W.nsIn K mainGlobals (clsN c) = some (some (.ref (He.ga K (clsN c)))) := by
  unfold isKnownX at h
  simp only [Bool.and_eq_true] at h
  exact He.eqO_ok h.2
theorem known_ns {K : PySem.W.Frag} {c : Nat} (h : isKnown K c = true) : PySem.W.nsIn K mainGlobals (clsN c) = some (some (.ref (He.ga K (clsN c)))) := by
  unfold isKnown at h
  simp only [Bool.and_eq_true] at h
  exact He.eqO_ok h.2
theorem ErrKit.at {K : PySem.W.Frag} {file : Str} {c : Nat} (k : ErrKit K file = true) (hc : isKnownX K c = true) : ErrF K file c := by
  obtain ⟨i, hi, rfl⟩ := knownX_lt hc
  have h := List.all_eq_true.mp k i (List.mem_range.mpr hi)
  rw [hc] at h
  simp only [Bool.not_true, Bool.false_or, Bool.and_eq_true] at h
  obtain ⟨⟨⟨h1, h2⟩, h3⟩, h4⟩ := h
  unfold xclsB at h1
  simp only [Bool.and_eq_true, decide_eq_true_eq] at h1
  obtain ⟨⟨⟨⟨⟨⟨⟨a1, a2⟩, a3⟩, a4⟩, a5⟩, a6⟩, a7⟩, a8⟩ := h1
  have h5 : ∀ d, isKnownX K d = true → PySem.W.exmOne K (.ref (He.ga K (clsN (100 + i)))) (.ref (He.ga K (clsN d))) = some (excSub (100 + i) d) ∧ PySem.W.kitOne K (.ref (He.ga K (clsN (100 + i)))) (.ref (He.ga K (clsN d))) = some (excSub (100 + i) d) := fun d hd => by
    obtain ⟨j, hj, rfl⟩ := knownX_lt hd
    have q := List.all_eq_true.mp h4 j (List.mem_range.mpr hj)
    rw [hd] at q
    simpa using q
  refine ⟨He.eqO_ok a1, He.eqO_ok a2, a3, a4, He.eqO_ok a5, He.eqO_ok a6, a7, a8, fun f hf => He.eqO_ok (List.all_eq_true.mp h2 f hf), fun f hf => ?_, fun d hd => (h5 d hd).1, fun d hd => (h5 d hd).2⟩
  unfold errAt at h3
  rw [hf] at h3
  exact errB_ok h3
/-- how an error stands: its class's number, its fields -/
def ERx (K : Kc) : ExT := fun g n H c fs cls dd => isKnownX K.K c = true ∧ cls = .ref (CL K c) ∧ ∃ d vs, dd = some d ∧ vs.length = (fldsOf c).length ∧ (H d = some (.xd ((fldsOf c).zip vs)) ∧ ¬ g.W d) ∧ Reps K g n H fs vs
theorem ERx_ok {K : Kc} : ExOk (ERx K) := by
  rintro g g' n H c fs cls dd hW hio ⟨h1, h2, d, vs, h3, h4, ⟨h5, h6⟩, h7⟩
  exact ⟨h1, h2, d, vs, h3, h4, ⟨h5, fun z => h6 ((hW d).mp z)⟩, h7.kp (Kp.sameW hW hio)⟩
section
variable {X : Cx} {ER : ExT} {Wx : WX} {C : Calls} {m : Bool}
theorem relO_one {f : Str} {v : V} {v' : Value} (r : RelV v v') (g : Str) : RelO (List.lookup g [(f, v)]) (if g = f then some v' else none) := by
  by_cases hw : g = f
  · subst hw
    rw [if_pos rfl]
    have q : List.lookup g [(g, v)] = some v := by simp [List.lookup]
    rw [q]
    exact r
  · rw [if_neg hw]
    have qw : (g == f) = false := by simpa using hw
    have q2 : List.lookup g [(f, v)] = none := by simp [List.lookup, qw]
    rw [q2]
    trivial
/-- X(e) -/
def tMkErr (Cl : Addr) (f : Str) (ta : TA) : L2.St → Hp → XK → Prop := fun σ H Q => ta σ H fun vs H1 => ∃ v, vs = [v] ∧ ∀ d, H1 d = none → Q (.ref Cl) (some d) (upd H1 d (.xd [(f, v)]))
theorem pmk_err {Cl fI : Addr} {f x : Str} {a : Expr} {ta : TA} {p pos : Pos} {k : Nat} (T : ErrT X.K X.prog.main.file f Cl fI) (htop : (X.prog.main.scope.names.lookup ("super" : Str)).isSome = false) (hr : Room k X.A) (hg : Gl X x) (hm : X.mg x = some (.ref Cl)) (hd : (x == ("__debug__" : Str)) = false)
    (ha : PA X [a] ta) (hs : notStar a = true) : PMk X (.Call (.Name x p) [a] [] pos) (tMkErr Cl f ta) := by
  intro pins s σ H Q I h
  refine wpAny_Call_Name_kw (ld_glob I hg hm ?_ hd)
  refine PySem.W.callWith_K (h₀ := X.base) I.ok.mod.kin T.kC (thn (ha.run pos pins s σ H _ I h) fun us s1 hh => ?_) (star_of hs _ _) rfl
  obtain ⟨vs, H1, I1, r1, v, ev, q1⟩ := hh
  subst ev
  refine ⟨I1.kIn, ?_⟩
  cases r1 with
  | cons rv rn =>
    rename_i v' us'
    cases rn
    show wpAny _ _ (call (.ref Cl) [v']) _ _ _
    have hlim := I1.nolimit
    obtain ⟨mb, hb1, hb2⟩ := I1.mod.blt
    have Hg : s1.heap.Ns mainGlobals X.mg := I1.mod.glob.keeps I1.bk
    have Hb : s1.heap.Ns builtinsNs mb := hb1.keeps I1.bk
    obtain ⟨hp, g, dr, tk, os⟩ := s1
    refine wpAny_call (err_made T I1.kIn hlim Hg Hb (hb2 "super" (by decide)) htop (by have := hr.dp; omega) fun h' tk' e d M => ?_)
    show MkP X pins σ Q (.ref e) ⟨h', g, dr, tk', os⟩
    obtain ⟨oe, fv, hoe, hc, hd, hdat, h1⟩ := M.obj
    have hns := M.ns
    obtain ⟨G', g1, g2⟩ := restrict h' fun b => decide (b ≠ e)
    have gk : ∀ b, b ≠ e → G'.get? b = h'.get? b := fun b hb => g1 b (decide_eq_true hb)
    have ge : G'.get? e = none := g2 e (by simp)
    have old : ∀ b o, hp.get? b = some o → G'.get? b = some o := fun b o q => (gk b (Nat.ne_of_lt (Nat.lt_of_lt_of_le (Heap.lt_size q) M.new))).trans (M.keep b o q)
    have ob : ObjOk X.prog X.w (upd H1 d (.xd [(f, v)])) G' d (.xd [(f, v)]) :=
      ⟨_, hns.at (fun o q => (gk d M.dne).trans q), fun g => relO_one rv g⟩
    have J : Inv X pins σ (upd H1 d (.xd [(f, v)])) ⟨G', g, dr, tk', os⟩ := I1.laid (t' := tk') old M.dbig ob
    refine ⟨e, oe, fv, ⟨G', g, dr, tk', os⟩, _, .ref Cl, some d, rfl, J, fun b o q => ?_, ge, hoe, ⟨hc, hd⟩, hdat, h1, ?_, rfl, I1.bare, raises_own T.exC T.tyC, q1 d (I1.hok.fresh M.dbig)⟩
    · by_cases hb : b = e
      · have q' : G'.get? b = some o := q
        rw [hb, ge] at q'; cases q'
      · exact (gk b hb).symm.trans q
    · rw [upd_ne (Ne.symm M.dne)]
      exact I1.hok.fresh M.new
/-- raise X(e) -/
theorem ss_rais {c : Nat} {f x : Str} {a : Expr} {ts : List Ex} {p pos pos2 : Pos} {k : Nat} (hc : X.calm = true) (hER : ER = ERx ⟨X.K, none⟩) (kit : ErrKit X.K X.prog.main.file = true) (hkn : isKnownX X.K c = true) (hf : fldsOf c = [f]) (hx : x = clsN c) (hm : X.mg x = some (.ref (He.ga X.K (clsN c))))
    (htop : (X.prog.main.scope.names.lookup ("super" : Str)).isSome = false) (hr : Room k X.A) (hg : Gl X x) (hd : (x == ("__debug__" : Str)) = false) (tk : Takes X Wx) (ha : SL X ER Wx C [a] ts) (hl : ts.length = 1) (hs : notStar a = true) :
    SS X ER Wx C m (.Raise (some (.Call (.Name x p) [a] [] pos)) none pos2) (.rais c ts) := by
  have T := (ErrKit.at kit hkn).er f hf
  refine psImp (ps_raise hc tk (pmk_err T htop hr hg hm hd ha hs)) fun D s H ⟨g, st, E, A, w, hn, hr, hb, hct, hx⟩ => ?_
  simp only [wS] at w
  refine ⟨g, st, _, _, A, w, fun ds st1 vs g1 H1 ⟨hlen, q⟩ x1 A1 r1 hl1 => ?_, fun c fs st' cls dd g' H' q x A' r => hx _ _ _ _ _ _ _ _ q x A' r⟩
  rw [hl] at hl1
  match vs, hl1, r1 with
  | [v], _, r1 =>
    refine ⟨v, rfl, fun d hd => ?_⟩
    obtain ⟨A2, x2⟩ := A1.alloc hd (.xd [(f, v)])
    refine hx _ _ _ _ _ _ _ _ q (x1.trans x2) A2 ?_
    rw [hER, ← kz_calm hc]
    refine ⟨hkn, rfl, d, [v], rfl, by rw [hf]; rfl, ⟨?_, A1.unW hd⟩, r1.kp (x2.kp A1.mw)⟩
    rw [hf, upd_same]
    rfl
end
end Mp
namespace L2
open PySem PySem.Spec PyProof.Rows
/-- what is wanted behind an except suite -/
def unAt (D : Ends) (i : Nat) : Ends := { nx := fun σ' H' => D.nx (σ'.set i none) H', rt := D.rt, bk := fun σ' H' => D.bk (σ'.set i none) H', ct := fun σ' H' => D.ct (σ'.set i none) H' }
/-- what the clauses wish of an exception of the body, one after the other -/
def wManyAs (K : PySem.W.Frag) (Wout : WX) (D : Ends) : List (Value × Nat × (Addr → Obj → List (Addr × Obj) → Value → Option Addr → TS)) → WX
  | [] => Wout
  | (c, i, ts) :: r => fun cls d σ H => ∃ b, PySem.W.exmOne K cls c = some b ∧ (b = true → ∀ a oe pn, Zc cls d oe → (∃ vs, oe.data = .fields vs) → H a = none → ts a oe pn cls d (unAt D i) (σ.set i (some (.ref a))) H) ∧ (b = false → wManyAs K Wout D r cls d σ H)
inductive HdsAs (X : Cx) : List ExceptHandler → List (Value × Nat × (Addr → Obj → List (Addr × Obj) → Value → Option Addr → TS)) → Prop
  | nil : HdsAs X [] []
  | cons {x n : Str} {c : Value} {i : Nat} {ts : Addr → Obj → List (Addr × Obj) → Value → Option Addr → TS} {b₀ : Stmt} {suite : List Stmt} {np pos' : Pos} {hds : List ExceptHandler} {l : List (Value × Nat × (Addr → Obj → List (Addr × Obj) → Value → Option Addr → TS))} (hc : Names X x c) (hi : X.N[i]? = some n) (hln : X.env.kindOf n = some .local)
      (hsu : ∀ (a : Addr) (oe : Obj) (cls : Value) (d : Option Addr) (pn : List (Addr × Obj)), Zc cls d oe → (∃ vs, oe.data = .fields vs) → PSs (X.suite a ((a, oe) :: pn)) (b₀ :: suite) (ts a oe pn cls d)) (r : HdsAs X hds l) :
      HdsAs X (.ExceptHandler (some (.Name x np)) (some n) (b₀ :: suite) pos' :: hds) ((c, i, ts) :: l)
section
variable {X : Cx} {body : List Stmt} {h₀ : ExceptHandler} {hds : List ExceptHandler} {l : List (Value × Nat × (Addr → Obj → List (Addr × Obj) → Value → Option Addr → TS))} {pos : Pos} {tb : WX → TS} {Wout : WX}
theorem ps_try_manyAs (hs : X.stack = X.env :: X.outer) (hf : X.env.frame = some X.env.locals) (hN : X.N.Nodup) (tk : Takes X Wout)
    (hb : ∀ (W : WX) (pn : List (Addr × Obj)) (xe : Value → Shared → Prop), Takes (X.tr pn xe) W → PassesOwn (model X.prog X.w) X.A X.env xe → PSs (X.tr pn xe) body (tb W))
    (hh : HdsAs X (h₀ :: hds) l) : PS X (.Try body (h₀ :: hds) [] [] pos) (fun D σ H => tb (wManyAs X.K Wout D l) D σ H) := by
  refine ⟨fun pins s σ H D I h => ?_⟩
  have ok := I.ok
  have hfr : X.A.frames = some (X.env :: X.outer) := by rw [ok.frames, hs]
  refine wpAny_Try_except ?_
  refine wpAny_mono ((hb (wManyAs X.K Wout D l) (X.pn ++ pins) (fun e s₁ => wpAny (model X.prog X.w) X.A (noteFrame e X.env) (fun _ s₂ => wpAny (model X.prog X.w) X.A (setFlight e none) (fun _ s₃ =>
    wpAny (model X.prog X.w) X.A (handleBy e X.env (h₀ :: hds)) (SP X pins D) X.xe s₃) X.xe s₂) X.xe s₁) (fun u s' xx => ?_) PassesOwn.looking).run [] s σ H D (I.toTry _) h) (fun f s1 hsp => ?_) (fun e s1 he => he)
  · -- the catch
    obtain ⟨a, B, sI, pins', σ', H', cls, d, rfl, J', nb, up, sky, na, os, ag, w⟩ := xx
    have J : Inv X pins σ' H' sI := J'.ofTry ok
    have sky' : Sky B (X.env :: X.outer) a (Zc cls d) X.env.locals s'.heap := by rw [← hs]; exact sky
    show wpAny (model X.prog X.w) X.A (noteFrame (.ref a) X.env) _ _ _
    refine Sky.land Zc.steady hfr hf sky' fun h3 fl3 up3 => ?_
    have J3 : Inv X pins σ' H' { s' with heap := h3 } := J.landed nb fl3.1 (up.trans up3) os ag
    obtain ⟨oe3, vs3, he3, hz3, hd3⟩ := fl3.there
    have notFr : ∀ {h : Heap} {o : Obj} {vs : Array Value}, h.FunFrames B (X.env :: X.outer) → h.get? a = some o → o.data = .fields vs → a ∉ frs (X.env :: X.outer) := fun {h o vs} ff e dd hm => by
      obtain ⟨_, o', e', hnf⟩ := ff.mem hm
      rw [e] at e'; cases e'
      exact hnf _ dd
    have nfr := notFr fl3.2.2.1 he3 hd3
    have nL : a ≠ X.env.locals := fun z => nfr (List.mem_filterMap.mpr ⟨X.env, List.mem_cons_self, by rw [hf, z]⟩)
    have nF : a ∉ X.fs := fun hm => by
      obtain ⟨e, he, q⟩ := List.mem_filterMap.mp hm
      exact nfr (List.mem_filterMap.mpr ⟨e, List.mem_cons_of_mem _ he, q⟩)
    have S3 := J3.suite he3 hd3 na nL nF
    have go : ∀ {hds' : List ExceptHandler} {l' : List (Value × Nat × (Addr → Obj → List (Addr × Obj) → Value → Option Addr → TS))}, HdsAs X hds' l' → wManyAs X.K Wout D l' cls d σ' H' →
        wpAny (model X.prog X.w) X.A (handleBy (.ref a) X.env hds') (SP X pins D) X.xe { s' with heap := h3 } := by
      intro hds' l' hk
      induction hk with
      | nil =>
        intro w
        refine wpAny_handleBy_nil ?_
        obtain ⟨k1, k2, k3, oe, vs, T, oT, ts', he, hz, hd, h1, hr⟩ := id fl3
        unfold PySem.passOn
        refine wpAny_bind (wpAny_field he hd h1 ?_)
        rw [if_neg (show ¬ ((Value.ref T == Value.none) = true) from by simp)]
        have fin : wpAny (model X.prog X.w) X.A (setFlight (.ref a) X.env.frame) (fun _ s4 => wpAny (model X.prog X.w) X.A (throw (.ref a) : Sem Flow) (SP X pins D) X.xe s4) X.xe { s' with heap := h3 } := by
          rw [hf]
          refine HandSPX.setFlight_upZ fl3 fun h4 hh4 up4 => wpAny_throw (tk _ _ ?_)
          exact ⟨a, B, sI, pins, σ', H', cls, d, rfl, J, nb, (up.trans up3).trans up4, .inr (.inr (by rw [hs]; exact hh4)), na, os, ag, w⟩
        first
          | exact wpAny_bind (wpAny_pure (wpAny_bind fin))
          | exact wpAny_bind fin
      | @cons x n c i ts b₀ suite np pos' hds2 l2 hc hi hln hsu r ih =>
        intro w
        obtain ⟨b, hb1, hyes, hno⟩ := w
        refine wpAny_handleBy_cons (codeAny_handlers_test ?_) (by intro q; cases q)
        have LT : PySem.W.Looks (model X.prog X.w) h3 (typeOf (.ref a)) cls := fun A Q E s k q => wpAny_typeOf_ref (k _ _ he3) (by rw [hz3.1]; exact q)
        have LM := PySem.W.exm_one (M := model X.prog X.w) (J3.kIn) LT hb1
        have test : ∀ {Q : Value → Shared → Prop} {E : Value → Shared → Prop}, Q c { s' with heap := h3 } → wpAny (model X.prog X.w) (X.A.mark (some (.ref a))) (eval (.Name x np) X.env) Q E { s' with heap := h3 } := fun {Q E} q => by
          obtain ⟨hg, hdbg, hm | ⟨hm, hv, hnn⟩⟩ := hc
          · exact ld_glob (X := X.suite a ((a, oe3) :: (X.pn ++ pins))) S3 hg hm q hdbg
          · exact ld_blt (X := X.suite a ((a, oe3) :: (X.pn ++ pins))) S3 hg hm hv q hnn hdbg
        refine test (LM.here ?_)
        cases b with
        | true =>
          refine codeAny_handlers_suite_as ?_
          refine HandSPX.lands_againZ fl3 fun h4 fl4 up4 => ?_
          have J4 : Inv X pins σ' H' { s' with heap := h4 } := J.landed nb fl4.1 ((up.trans up3).trans up4) os ag
          obtain ⟨oe4, vs4, he4, hz4, hd4⟩ := fl4.there
          have S4 := J4.suite he4 hd4 na nL nF
          have hloc : Loc X.env.scope n := .inl hln
          refine store_ok (X := X.suite a ((a, oe4) :: (X.pn ++ pins))) (v := .ref a) S4 hN hi hloc rfl (fun s5 S5 => ?_) (.inr hln)
          refine wpAny_mono ((hsu a oe4 cls d (X.pn ++ pins) hz4 ⟨_, hd4⟩).run [] s5 _ H' _ S5 (hyes rfl a oe4 (X.pn ++ pins) hz4 ⟨_, hd4⟩ na)) (fun f s6 hsp => ?_) (fun _ _ z => False.elim z)
          have end_ : ∀ {σ6 : St} {H6 : Hp} {Q : Shared → Prop}, Inv (X.suite a ((a, oe4) :: (X.pn ++ pins))) [] σ6 H6 s6 → (∀ s7, Inv X pins (σ6.set i none) H6 s7 → Q s7) →
              wpAny (model X.prog X.w) X.A (do bindName X.env n .none; unbindBehindTheSuite X.env n pos') (fun _ s7 => Q s7) X.xe s6 := fun {σ6 H6 Q} S6 hq => gone_ok (S6.unsuite ok) hN hi hln hq
          cases f with
          | next =>
            obtain ⟨σ6, H6, S6, q6⟩ := hsp
            exact end_ S6 fun s7 J7 => ⟨_, _, J7, q6⟩
          | brk =>
            obtain ⟨σ6, H6, S6, q6⟩ := hsp
            exact end_ S6 fun s7 J7 => ⟨_, _, J7, q6⟩
          | cont =>
            obtain ⟨σ6, H6, S6, q6⟩ := hsp
            exact end_ S6 fun s7 J7 => ⟨_, _, J7, q6⟩
          | ret u =>
            obtain ⟨v6, σ6, H6, S6, r6, q6⟩ := hsp
            exact end_ S6 fun s7 J7 => ⟨_, _, _, J7, r6, q6⟩
        | false =>
          show wpAny _ X.A (handleBy (.ref a) X.env hds2) _ _ _
          exact ih (hno rfl)
    exact go hh w
  · cases f with
    | next =>
      obtain ⟨σ', H', J', q⟩ := hsp
      exact wpAny_execs_nil ⟨σ', H', J'.ofTry ok, q⟩
    | brk =>
      obtain ⟨σ', H', J', q⟩ := hsp
      exact ⟨σ', H', J'.ofTry ok, q⟩
    | cont =>
      obtain ⟨σ', H', J', q⟩ := hsp
      exact ⟨σ', H', J'.ofTry ok, q⟩
    | ret u =>
      obtain ⟨v, σ', H', J', r, q⟩ := hsp
      exact ⟨v, σ', H', J'.ofTry ok, r, q⟩
end
end L2
namespace Mp
open PySem PySem.Spec L2
/-! ### the written part alone matters to data -/
mutual
theorem Rep.xo {F : PySem.W.Frag} {x y : Option (Addr × Obj)} {g : Gh} {n : Nat} {H : Hp} : ∀ {d : D} {v : V}, Rep ⟨F, x⟩ g n H d v → Rep ⟨F, y⟩ g n H d v
  | .non, _, h => h
  | .bl _, _, h => h
  | .int _, _, h => h
  | .str _, _, h => h
  | .tup _, _, ⟨a, vs, e, h, r⟩ => ⟨a, vs, e, h, Reps.xo r⟩
  | .lst _, _, ⟨a, vs, e, h, r⟩ => ⟨a, vs, e, h, Reps.xo r⟩
  | .dic _ _, _, ⟨a, kk, ws, e, h, r1, r2⟩ => ⟨a, kk, ws, e, h, Reps.xo r1, Reps.xo r2⟩
  | .obj _ _, _, ⟨a, vs, e, h, r⟩ => ⟨a, vs, e, h, Reps.xo r⟩
  | .cell _, _, h => h
  | .scr _, _, ⟨a, vs, e, h, r⟩ => ⟨a, vs, e, h, Reps.xo r⟩
theorem Reps.xo {F : PySem.W.Frag} {x y : Option (Addr × Obj)} {g : Gh} {n : Nat} {H : Hp} : ∀ {ds : List D} {vs : List V}, Reps ⟨F, x⟩ g n H ds vs → Reps ⟨F, y⟩ g n H ds vs
  | [], _, h => h
  | _ :: _, _, ⟨v, r, e, h, t⟩ => ⟨v, r, e, Rep.xo h, Reps.xo t⟩
end
theorem OwR.xo {F : PySem.W.Frag} {x y : Option (Addr × Obj)} {g : Gh} {n : Nat} {H : Hp} {a : Addr} : ∀ {d : D}, OwR ⟨F, x⟩ g n H a d → OwR ⟨F, y⟩ g n H a d
  | .lst _, ⟨vs, h, r⟩ => ⟨vs, h, r.xo⟩
  | .dic _ _, ⟨kk, ws, h, r1, r2⟩ => ⟨kk, ws, h, r1.xo, r2.xo⟩
theorem CeR.xo {F : PySem.W.Frag} {x y : Option (Addr × Obj)} {g : Gh} {n : Nat} {H : Hp} {a : Addr} : ∀ {c : CO}, CeR ⟨F, x⟩ g n H a c → CeR ⟨F, y⟩ g n H a c
  | .dead, h => h
  | .lst _, ⟨m, vs, h, r⟩ => ⟨m, vs, h, r.xo⟩
  | .dic _ _, ⟨m, kk, ws, h, r1, r2⟩ => ⟨m, kk, ws, h, r1.xo, r2.xo⟩
  | .obj _ _, ⟨m, vs, h, r⟩ => ⟨m, vs, h, r.xo⟩
theorem noX_at {e : List Sl} (h : noX e = true) {i c : Nat} {fs : List D} : e[i]? ≠ some (.exc c fs) := fun z => by
  have := List.all_eq_true.mp h _ (List.mem_of_getElem? z)
  simp at this
theorem Abs.xo {F : PySem.W.Frag} {x y : Option (Addr × Obj)} {g : Gh} {st : Stt} {s : L2.St} {H : Hp} (A : Abs ⟨F, x⟩ g st s H) (hn : ∀ (i c : Nat) (fs : List D), st.e[i]? ≠ some (Sl.exc c fs)) : Abs ⟨F, y⟩ g st s H :=
  ⟨A.mw, A.wt, fun i z e => by
    obtain ⟨ov, e1, r⟩ := A.sl i z e
    refine ⟨ov, e1, ?_⟩
    cases z with
    | un => trivial
    | shr d => obtain ⟨v, e2, r⟩ := r; exact ⟨v, e2, r.xo⟩
    | own d => obtain ⟨a, e2, m, r⟩ := r; exact ⟨a, e2, m, r.xo⟩
    | exc c fs => exact absurd e (hn i c fs), A.oo, A.oc, fun l o e => (A.ce l o e).xo, A.cc⟩
/-- a slot is forgotten -/
theorem Abs.drop {K : Kc} {g : Gh} {st : Stt} {s : L2.St} {H : Hp} (A : Abs K g st s H) {i : Nat} (ov : Option V) : Abs K g ⟨st.e.set i .un, st.h⟩ (s.set i ov) H := by
  have own_of : ∀ j b, OwnAt (st.e.set i .un) (s.set i ov) j b → OwnAt st.e s j b := fun j b ⟨⟨d', h1⟩, h2⟩ => by
    by_cases hj : j = i
    · subst hj
      have hlt : j < st.e.length := by simpa using lt_of_get h1
      rw [List.getElem?_set_self hlt] at h1
      cases h1
    · rw [List.getElem?_set_ne (Ne.symm hj)] at h1 h2
      exact ⟨⟨d', h1⟩, h2⟩
  refine ⟨A.mw, A.wt, fun j x h => ?_, fun j j' b h1 h2 => A.oo j j' b (own_of j b h1) (own_of j' b h2), fun j b l h1 h2 => A.oc j b l (own_of j b h1) h2, A.ce, A.cc⟩
  by_cases hj : j = i
  · subst hj
    have hlt : j < st.e.length := by simpa using lt_of_get h
    have h' : (st.e.set j .un)[j]? = some x := h
    rw [List.getElem?_set_self hlt] at h'
    cases h'
    obtain ⟨_, e1, _⟩ := A.sl j _ (List.getElem?_eq_getElem hlt)
    exact ⟨ov, List.getElem?_set_self (lt_of_get e1), trivial⟩
  · have h' : (st.e.set i .un)[j]? = some x := h
    rw [List.getElem?_set_ne (Ne.symm hj)] at h'
    obtain ⟨ov', e1, r⟩ := A.sl j x h'
    exact ⟨ov', by rw [List.getElem?_set_ne (Ne.symm hj)]; exact e1, r⟩
section
variable {X : Cx} {ER : ExT} {Wx : WX} {C : Calls} {m : Bool}
theorem pin_of {a : Addr} {oe : Obj} {pins : List (Addr × Obj)} {σ : L2.St} {H : Hp} {s : Shared} (h : (kz X).xo = some (a, oe)) (I : Inv X pins σ H s) : s.heap.get? a = some oe := by
  have h' : (if X.calm then none else X.pn.head?) = some (a, oe) := h
  split at h'
  · cases h'
  · exact (I.pin (a, oe) (List.mem_append_left _ (List.mem_of_mem_head? h'))).1
/-- e.f, e the caught error -/
theorem se_xfl {i : Nat} {n f : Str} {p pos : Pos} (kit : ErrKit X.K X.prog.main.file = true) (hN : X.N[i]? = some n) (hv : Vis X.env.scope n) (hd : (n == ("__debug__" : Str)) = false) (hcd : (n == ("__classdict__" : Str)) = false) : SE X ER Wx C (.Attribute (.Name n p) f pos) (.xfl i f) false := by
  refine ⟨fun pins s σ H Q I h => ?_⟩
  obtain ⟨g, st, Qd, Xd, A, w, hq, hx⟩ := h
  simp only [wE] at w
  split at w
  · rename_i c fs es
    obtain ⟨k, d, e1, e2, q⟩ := w
    obtain ⟨ov, f1, a, oe, dd, vs, x1, x2, x3, x4, ⟨fv, x5⟩, x6, x7, ⟨x8, x9⟩, r⟩ := A.sl i _ es
    subst x2
    obtain ⟨v, e3, rv⟩ := r.get e2
    have F := ErrKit.at kit x6
    refine attr_of (base_of rfl _ _ _) (thn ((pe_var hN hv hd hcd).run pins s σ H (fun x H1 => x = .ref a ∧ H1 = H) I ⟨.ref a, f1, rfl, rfl⟩) fun u s1 hh => ?_)
    obtain ⟨x, H1, I1, rx, rfl, rfl⟩ := hh
    obtain rfl : u = Value.ref a := rx
    have ha := pin_of x1 I1
    have hx : ObjOk X.prog X.w H1 s1.heap dd (.xd ((fldsOf c).zip vs)) := I1.hok dd _ x8
    obtain ⟨mA, hns, hr⟩ := hx
    obtain ⟨od, ho, hl⟩ := lookIn_ns hns
    obtain ⟨u, hu, ru⟩ := RelO.some_of (v := v) (o := mA f) (by rw [← ix_lookup e1 e3]; exact hr f)
    have J : PySem.W.InstAt s1.heap a oe (CL (kz X) c) (some od) := ⟨ha, x3, by unfold PySem.W.notCls; rw [x5] <;> rfl, by rw [x4]; exact ho⟩
    exact HandSPX.exc_get I1.kIn J F.ga F.gg F.ex (PySem.W.findObj_own F.hd (F.no f (ix_mem e1)) rfl (by rw [hl, hu])) (handed_of ru) ⟨v, H1, I1.tok _, ru, hq _ _ _ _ _ q (Ext.refl _ _ _) A rv⟩
  · exact w.elim
/-- isinstance(e, X), e the caught error -/
theorem se_xis {i k : Nat} {n x : Str} {p p2 p3 pos : Pos} (kit : ErrKit X.K X.prog.main.file = true) (hN : X.N[i]? = some n) (hv : Vis X.env.scope n) (hd : (n == ("__debug__" : Str)) = false) (hcd : (n == ("__classdict__" : Str)) = false) (hg : Gl X "isinstance") (hm : X.mg "isinstance" = none)
    (hx : x = clsN k) (hkn : isKnownX X.K k = true) (hg2 : Gl X x) (hm2 : X.mg x = some (.ref (CL (kz X) k))) (hd2 : (x == ("__debug__" : Str)) = false) : SE X ER Wx C (.Call (.Name "isinstance" p) [.Name n p2, .Name x p3] [] pos) (.xis i k) false := by
  refine ⟨fun pins s σ H Q I h => ?_⟩
  obtain ⟨g, st, Qd, Xd, A, w, hq, hxx⟩ := h
  simp only [wE] at w
  split at w
  · rename_i c fs es
    obtain ⟨ov, f1, a, oe, dd, vs, x1, x2, x3, x4, ⟨fv, x5⟩, x6, x7, ⟨x8, x9⟩, r⟩ := A.sl i _ es
    subst x2
    have F := ErrKit.at kit x6
    have cr : CallR X (.builtin "isinstance") (fun xs H' Q' => xs = [.ref a, .ref (CL (kz X) k)] ∧ H' = H ∧ Q' (.bl (excSub c k)) H') := by
      intro pins' s' σ' H' xs us Q' I' r' hh
      obtain ⟨rfl, rfl, q'⟩ := hh
      obtain ⟨u1, u2, rfl, r1, r2⟩ := vals2 r'
      cases (show u1 = Value.ref a from r1)
      cases (show u2 = Value.ref _ from r2)
      have ha := pin_of x1 I'
      have hxo : ObjOk X.prog X.w H' s'.heap dd (.xd ((fldsOf c).zip vs)) := I'.hok dd _ x8
      obtain ⟨mA, hns, hr⟩ := hxo
      obtain ⟨od, ho, hl⟩ := lookIn_ns hns
      have J : PySem.W.InstAt s'.heap a oe (CL (kz X) c) (some od) := ⟨ha, x3, by unfold PySem.W.notCls; rw [x5] <;> rfl, by rw [x4]; exact ho⟩
      have hcl : (PySem.W.clsIn X.K (CL (kz X) c)).isSome = true := by
        obtain ⟨cd, hc, _⟩ := PySem.W.any_some F.hd
        exact Option.isSome_iff_exists.mpr ⟨cd, hc⟩
      exact PySem.W.kia_one (PySem.W.kitx_exc hcl F.ga F.gg F.ex F.ca F.cn F.ct F.cm) I'.kIn J (F.ki k hkn) (fun z => nomatch z) fun tk => ⟨.bl (excSub c k), H', I'.kept (t' := tk) fun _ _ z => z, rfl, q'⟩
    have h2 : PA X [.Name n p2, .Name x p3] (tCons (tVar i) (tCons (tC (.ref (CL (kz X) k))) tNil)) := pa_cons (pe_var hN hv hd hcd) (pa_cons (pe_glob hg2 hm2 rfl hd2) pa_nil (star_of rfl _ _)) (star_of rfl _ _)
    exact (pe_callB cr hg hm (by decide +kernel) h2 (by decide) (by decide) (star_of rfl _ _) (star_any rfl _ _)).run pins s σ H Q I ⟨.ref a, f1, rfl, rfl, hq _ _ _ _ _ w (Ext.refl _ _ _) A rfl⟩
  · exact w.elim
end
end Mp
namespace Mp
open PySem PySem.Spec L2
theorem Abs.setX {K : Kc} {g : Gh} {st : Stt} {s : L2.St} {H : Hp} (A : Abs K g st s H) {i c : Nat} {fs : List D} {v : V} (r : SlR K g st.h.length H (.exc c fs) (some v)) : Abs K g ⟨st.e.set i (.exc c fs), st.h⟩ (s.set i (some v)) H := by
  have own_of : ∀ j b, OwnAt (st.e.set i (.exc c fs)) (s.set i (some v)) j b → OwnAt st.e s j b := fun j b ⟨⟨d2, h1⟩, h2⟩ => by
    by_cases hj : j = i
    · subst hj
      have hl : j < st.e.length := by simpa using lt_of_get h1
      rw [List.getElem?_set_self hl] at h1; cases h1
    · rw [List.getElem?_set_ne (Ne.symm hj)] at h1 h2; exact ⟨⟨d2, h1⟩, h2⟩
  refine ⟨A.mw, A.wt, fun j x h => ?_, fun j j' b h1 h2 => A.oo j j' b (own_of j b h1) (own_of j' b h2), fun j b l h1 h2 => A.oc j b l (own_of j b h1) h2, A.ce, A.cc⟩
  by_cases hj : j = i
  · subst hj
    have hl : j < st.e.length := by simpa using lt_of_get h
    rw [List.getElem?_set_self hl] at h
    cases h
    obtain ⟨ov, e1, _⟩ := A.sl j _ (List.getElem?_eq_getElem hl)
    exact ⟨_, List.getElem?_set_self (lt_of_get e1), r⟩
  · have h' : (st.e.set i (.exc c fs))[j]? = some x := h
    rw [List.getElem?_set_ne (Ne.symm hj)] at h'
    obtain ⟨ov, e1, q⟩ := A.sl j x h'
    exact ⟨ov, by rw [List.getElem?_set_ne (Ne.symm hj)]; exact e1, q⟩
theorem RepM.xo {F : PySem.W.Frag} {x y : Option (Addr × Obj)} {g : Gh} {st : Stt} {s : L2.St} {H : Hp} {m : Bool} {d : D} {v : V} {i : Nat} {ov : Option V} (h : RepM ⟨F, x⟩ g st s H m d v) : RepM ⟨F, y⟩ g ⟨st.e.set i .un, st.h⟩ (s.set i ov) H m d v := by
  cases m with
  | false => exact Rep.xo h
  | true =>
    rcases h with ⟨a, e, ma, ow, no, nl⟩ | ⟨sc, r⟩
    · refine .inl ⟨a, e, ma, ow.xo, fun j ⟨⟨d', h1⟩, h2⟩ => ?_, nl⟩
      by_cases hj : j = i
      · subst hj
        have hl : j < st.e.length := by simpa using lt_of_get h1
        have h1' : (st.e.set j .un)[j]? = some (.own d') := h1
        rw [List.getElem?_set_self hl] at h1'
        cases h1'
      · have h1' : (st.e.set i .un)[j]? = some (.own d') := h1
        rw [List.getElem?_set_ne (Ne.symm hj)] at h1'
        rw [List.getElem?_set_ne (Ne.symm hj)] at h2
        exact no j ⟨⟨d', h1'⟩, h2⟩
    · exact .inr ⟨sc, r.xo⟩
section
variable {X : Cx} {ER : ExT} {Wx : WX} {C : Calls} {m : Bool}
/-- the handlers of a try -/
inductive HdsM (X : Cx) (ER : ExT) (C : Calls) (m : Bool) : List ExceptHandler → List (Nat × Nat) → List (List Sm) → Prop
  | nil : HdsM X ER C m [] [] []
  | cons {x n : Str} {k i : Nat} {b₀ : Stmt} {suite : List Stmt} {np pos' : Pos} {hds : List ExceptHandler} {cs : List (Nat × Nat)} {q : List Sm} {qs : List (List Sm)} (hkn : isKnownX X.K k = true) (hc : Names X x (.ref (CL (kz X) k))) (hi : X.N[i]? = some n) (hln : X.env.kindOf n = some .local)
      (hsu : ∀ (a : Addr) (oe : Obj) (pn : List (Addr × Obj)), SSs (X.suite a ((a, oe) :: pn)) ER W0 C m (b₀ :: suite) q) (r : HdsM X ER C m hds cs qs) : HdsM X ER C m (.ExceptHandler (some (.Name x np)) (some n) (b₀ :: suite) pos' :: hds) ((k, i) :: cs) (q :: qs)
def hdsL (X : Cx) (ER : ExT) (C : Calls) (m : Bool) : List (Nat × Nat) → List (List Sm) → List (Value × Nat × (Addr → Obj → List (Addr × Obj) → Value → Option Addr → TS))
  | (k, i) :: cs, q :: qs => (.ref (CL (kz X) k), i, fun a oe pn _ _ => rdSt (kz (X.suite a ((a, oe) :: pn))) ER W0 m (wSs C q)) :: hdsL X ER C m cs qs
  | _, _ => []
theorem HdsM.as {hds : List ExceptHandler} {cs : List (Nat × Nat)} {qs : List (List Sm)} (h : HdsM X ER C m hds cs qs) : HdsAs X hds (hdsL X ER C m cs qs) := by
  induction h with
  | nil => exact .nil
  | cons hkn hc hi hln hsu r ih => exact .cons hc hi hln (fun a oe cls d pn _ _ => hsu a oe pn) ih
theorem hds_wish {hds : List ExceptHandler} {cs : List (Nat × Nat)} {qs : List (List Sm)} (h : HdsM X ER C m hds cs qs) (hc : X.calm = true) (hER : ER = ERx ⟨X.K, none⟩) (kit : ErrKit X.K X.prog.main.file = true) {D : Ends} {E : EndD} {g0 : Gh} {n0 : Nat} {H0 : Hp}
    (hn : ∀ st' s' g' H', E.nx st' → Ext g0 n0 H0 g' st'.h.length H' → Abs (kz X) g' st' s' H' → D.nx s' H')
    (hr : ∀ d st' s' v g' H', E.rt d st' → Ext g0 n0 H0 g' st'.h.length H' → Abs (kz X) g' st' s' H' → RepM (kz X) g' st' s' H' m d v → D.rt v H')
    (hb : ∀ st' s' g' H', E.bk st' → Ext g0 n0 H0 g' st'.h.length H' → Abs (kz X) g' st' s' H' → D.bk s' H')
    (hct : ∀ st' s' g' H', E.ct st' → Ext g0 n0 H0 g' st'.h.length H' → Abs (kz X) g' st' s' H' → D.ct s' H')
    (hx : ∀ c fs st' s' cls dd g' H', E.ex c fs st' → Ext g0 n0 H0 g' st'.h.length H' → Abs (kz X) g' st' s' H' → ER g' st'.h.length H' c fs cls dd → Wx cls dd s' H') :
    ∀ c fs st' s' cls dd g' H', wHs C cs qs c fs st' E → Ext g0 n0 H0 g' st'.h.length H' → Abs (kz X) g' st' s' H' → ER g' st'.h.length H' c fs cls dd → wManyAs X.K Wx D (hdsL X ER C m cs qs) cls dd s' H' := by
  induction h with
  | nil =>
    intro c fs st' s' cls dd g' H' w x A r
    have w' : E.ex c fs st' := by simpa only [wHs] using w
    exact hx c fs st' s' cls dd g' H' w' x A r
  | @cons xn n k i b₀ suite np pos' hds cs q qs hkn hcn hi hln hsu r0 ih =>
    intro c fs st' s' cls dd g' H' w x A r
    have r' := r
    rw [hER] at r'
    obtain ⟨h1, h2, d, vs, h3, h4, ⟨h5, h6⟩, h7⟩ := r'
    have F := ErrKit.at kit h1
    have w' : (if excSub c k = true then wSs C q ⟨st'.e.set i (.exc c fs), st'.h⟩
      { nx := fun st2 => noX (st2.e.set i .un) = true ∧ E.nx ⟨st2.e.set i .un, st2.h⟩, rt := fun d st2 => noX (st2.e.set i .un) = true ∧ E.rt d ⟨st2.e.set i .un, st2.h⟩,
        bk := fun st2 => noX (st2.e.set i .un) = true ∧ E.bk ⟨st2.e.set i .un, st2.h⟩, ct := fun st2 => noX (st2.e.set i .un) = true ∧ E.ct ⟨st2.e.set i .un, st2.h⟩, ex := fun _ _ _ => False } else wHs C cs qs c fs st' E) := by simpa only [wHs] using w
    refine ⟨excSub c k, by rw [h2]; exact F.em k hkn, fun hb1 a oe pn hz hf na => ?_, fun hb1 => ?_⟩
    · rw [if_pos hb1] at w'
      have ek : kz X = ⟨X.K, none⟩ := kz_calm hc
      have ek2 : kz (X.suite a ((a, oe) :: pn)) = ⟨X.K, some (a, oe)⟩ := rfl
      have noexc : ∀ (j c : Nat) (fs : List Mp.D), st'.e[j]? ≠ some (Sl.exc c fs) := fun j c fs e => by
        obtain ⟨ov, _, a', oe', dd', vs', z, _⟩ := A.sl j _ e
        rw [ek] at z
        cases z
      have A1 : Abs ⟨X.K, some (a, oe)⟩ g' st' s' H' := by
        rw [ek] at A
        exact A.xo noexc
      have A2 : Abs (kz (X.suite a ((a, oe) :: pn))) g' ⟨st'.e.set i (.exc c fs), st'.h⟩ (s'.set i (some (.ref a))) H' := by
        rw [ek2]
        refine A1.setX ⟨a, oe, d, vs, rfl, rfl, ?_, ?_, hf, h1, h4, ⟨h5, h6⟩, h7.xo⟩
        · rw [hz.1, h2]
        · rw [hz.2, h3]
      have back : ∀ {st3 : Stt} {s3 : L2.St} {g3 : Gh} {H3 : Hp}, Abs (kz (X.suite a ((a, oe) :: pn))) g3 st3 s3 H3 → noX (st3.e.set i .un) = true → Abs (kz X) g3 ⟨st3.e.set i .un, st3.h⟩ (s3.set i none) H3 := fun {st3 s3 g3 H3} A3 hno => by
        have A4 := A3.drop (i := i) none
        rw [ek2] at A4
        rw [ek]
        exact A4.xo fun j c fs => noX_at hno
      refine ⟨g', _, _, A2, w', fun st3 s3 g3 H3 ⟨hno, q3⟩ x3 A3 => ?_, fun d3 st3 s3 v3 g3 H3 ⟨hno, q3⟩ x3 A3 r3 => ?_, fun st3 s3 g3 H3 ⟨hno, q3⟩ x3 A3 => ?_, fun st3 s3 g3 H3 ⟨hno, q3⟩ x3 A3 => ?_, fun _ _ _ _ _ _ _ _ z => z.elim⟩
      · exact hn _ _ _ _ q3 (x.trans x3) (back A3 hno)
      · refine hr _ _ _ _ _ _ q3 (x.trans x3) (back A3 hno) ?_
        rw [ek2] at r3
        rw [ek]
        exact r3.xo
      · exact hb _ _ _ _ q3 (x.trans x3) (back A3 hno)
      · exact hct _ _ _ _ q3 (x.trans x3) (back A3 hno)
    · rw [if_neg (by rw [hb1]; simp)] at w'
      exact ih c fs st' s' cls dd g' H' w' x A r
/-- try: .. except X as e: .. -/
theorem ss_try {body : List Stmt} {h₀ : ExceptHandler} {hds : List ExceptHandler} {pos : Pos} {qb : List Sm} {cs : List (Nat × Nat)} {qs : List (List Sm)} (hc : X.calm = true) (hER : ER = ERx ⟨X.K, none⟩) (kit : ErrKit X.K X.prog.main.file = true) (hs : X.stack = X.env :: X.outer) (hf : X.env.frame = some X.env.locals) (hN : X.N.Nodup) (tk : Takes X Wx)
    (hb : ∀ (W : WX) (pn : List (Addr × Obj)) (xe : Value → Shared → Prop), Takes (X.tr pn xe) W → PassesOwn (model X.prog X.w) X.A X.env xe → SSs (X.tr pn xe) ER W C m body qb) (hh : HdsM X ER C m (h₀ :: hds) cs qs) :
    SS X ER Wx C m (.Try body (h₀ :: hds) [] [] pos) (.tryA qb cs qs) := by
  refine psImp (ps_try_manyAs (tb := fun W => rdSt (kz X) ER W m (wSs C qb)) hs hf hN tk (fun W pn xe t p => ?_) hh.as) fun D s H ⟨g, st, E, A, w, hn, hr, hb, hct, hx⟩ => ?_
  · have e : kz (X.tr pn xe) = kz X := by rw [kz_calm hc, kz_calm (X := X.tr pn xe) hc]
    have z := hb W pn xe t p
    unfold SSs at z
    rw [e] at z
    exact z
  · simp only [wS] at w
    exact ⟨g, st, _, A, w, hn, hr, hb, hct, hds_wish hh hc hER kit hn hr hb hct hx⟩
end
end Mp
namespace Mp
open PySem PySem.Spec L2
section
variable {X : Cx} {ER : ExT} {Wx : WX} {C : Calls} {m : Bool}
theorem op_mulS : OpR X (binaryOp .Mult) rMulS := by
  intro pins s σ H x y v u Q I rx ry h
  obtain ⟨z, k, rfl, rfl, ⟨k0, k1, k2⟩, q⟩ := h
  obtain ⟨t, rfl⟩ := (show ∃ t, v = Value.str z t from rx)
  obtain ⟨t2, rfl⟩ := (show ∃ t, u = Value.int k t from ry)
  exact PySem.SB.mul (PyProof.Rows.mulOk_of 1000 1000 k2 k1 (by omega) (by decide) (by decide)) fun t' k' => ⟨.str _, H, I.tok _, ⟨_, rfl⟩, q⟩
theorem callR_or {f : Value} {r r' : List V → Hp → VK → Prop} (h : CallR X f r) (h' : CallR X f r') : CallR X f (fun xs H Q => r xs H Q ∨ r' xs H Q) := by
  intro pins s σ H xs us Q I rv q
  rcases q with q | q
  · exact h pins s σ H xs us Q I rv q
  · exact h' pins s σ H xs us Q I rv q
theorem call_list_strR (hc : X.calm = true) : CallR X (.type "list") (fun vs H Q => ∃ z : Str, vs = [.str z] ∧ z.length ≤ sizeLine ∧ ∀ l, H l = none → Q (.ref l) (upd H l (.lst (z.cps.toList.map fun c => V.str ⟨#[c]⟩)))) := by
  intro pins s σ H xs us Q I r h
  obtain ⟨z, rfl, hz, q⟩ := h
  obtain ⟨u, rfl, rx⟩ := vals1 r
  obtain ⟨t, rfl⟩ := (show ∃ t, u = Value.str z t from rx)
  refine call_list_str (I.ok.hd hc) z t (fun h' tk acc' c' hk hS hacc => ?_) hz
  have hv : Vals (z.cps.toList.map fun c => V.str ⟨#[c]⟩) acc'.toList := by
    refine vals_of_at ?_ fun j x u h1 h2 => ?_
    · rw [List.length_map, Array.length_toList, Array.length_toList]; exact hacc.1.symm
    · have h3 : acc'[j]? = some u := by rw [← Array.getElem?_toList]; exact h2
      obtain ⟨c, t', h4, rfl⟩ := hacc.2 j u h3
      rw [List.getElem?_map, Array.getElem?_toList, h4] at h1
      cases h1
      exact ⟨t', rfl⟩
  have ob : ObjOk X.prog X.w (upd H s.heap.objs.size (.lst (z.cps.toList.map fun c => V.str ⟨#[c]⟩))) h' s.heap.objs.size (.lst (z.cps.toList.map fun c => V.str ⟨#[c]⟩)) := by
    refine ⟨?_, acc'.toList, c', hv, ?_⟩
    · rw [List.length_map]; exact hz
    · rw [hS]
  exact ⟨.ref s.heap.objs.size, _, I.laid (t' := tk) hk (Nat.le_refl _) ob, rfl, q _ (I.hok.fresh (Nat.le_refl _))⟩
end
section
variable {K : Kc} {s : L2.St} {H : Hp} {Q : VK} {m : Bool}
theorem bls_rep {g : Gh} {n : Nat} : ∀ {es : List D} {ys : List Bool} {vs : List V}, blsD es = some ys → Reps K g n H es vs → vs = ys.map V.bl
  | [], ys, _, e, h => by cases e; cases h; rfl
  | .bl x :: es, ys, _, e, ⟨v, r, e2, h, t⟩ => by
    subst e2
    simp only [blsD, Option.map_eq_some_iff] at e
    obtain ⟨zs, e1, rfl⟩ := e
    cases (show v = V.bl x from h)
    rw [bls_rep e1 t]
    rfl
  | .non :: _, _, _, e, _ => by cases e
  | .str _ :: _, _, _, e, _ => by cases e
  | .int _ :: _, _, _, e, _ => by cases e
  | .tup _ :: _, _, _, e, _ => by cases e
  | .lst _ :: _, _, _, e, _ => by cases e
  | .dic _ _ :: _, _, _, e, _ => by cases e
  | .obj _ _ :: _, _, _, e, _ => by cases e
  | .exc _ _ :: _, _, _, e, _ => by cases e
  | .cell _ :: _, _, _, e, _ => by cases e
  | .scr _ :: _, _, _, e, _ => by cases e
theorem ints_rep {g : Gh} {n : Nat} : ∀ {es : List D} {ys : List Int} {vs : List V}, intsD es = some ys → Reps K g n H es vs → vs = ys.map V.int
  | [], ys, _, e, h => by cases e; cases h; rfl
  | .int x :: es, ys, _, e, ⟨v, r, e2, h, t⟩ => by
    subst e2
    simp only [intsD, Option.map_eq_some_iff] at e
    obtain ⟨zs, e1, rfl⟩ := e
    cases (show v = V.int x from h)
    rw [ints_rep e1 t]
    rfl
  | .non :: _, _, _, e, _ => by cases e
  | .str _ :: _, _, _, e, _ => by cases e
  | .bl _ :: _, _, _, e, _ => by cases e
  | .tup _ :: _, _, _, e, _ => by cases e
  | .lst _ :: _, _, _, e, _ => by cases e
  | .dic _ _ :: _, _, _, e, _ => by cases e
  | .obj _ _ :: _, _, _, e, _ => by cases e
  | .exc _ _ :: _, _, _, e, _ => by cases e
  | .cell _ :: _, _, _, e, _ => by cases e
  | .scr _ :: _, _, _, e, _ => by cases e
theorem post_all {vs : List V} (h : OpPost K s .all false vs H Q) : rAll K.K vs H Q := by
  obtain ⟨g, st, ds, Qd, A, r, w, hq⟩ := h
  obtain ⟨a, rfl, es, bs, rfl, e2, q⟩ := any1_inv (show any1 ds _ from w)
  obtain ⟨x, rfl, p, us, rfl, h1, r1⟩ := r.to1
  cases bls_rep e2 r1
  exact ⟨p, bs, rfl, SqL.of h1, OpPost.plain A hq q rfl⟩
theorem post_any {vs : List V} (h : OpPost K s .any false vs H Q) : rAny K.K vs H Q := by
  obtain ⟨g, st, ds, Qd, A, r, w, hq⟩ := h
  obtain ⟨a, rfl, es, bs, rfl, e2, q⟩ := any1_inv (show any1 ds _ from w)
  obtain ⟨x, rfl, p, us, rfl, h1, r1⟩ := r.to1
  cases bls_rep e2 r1
  exact ⟨p, bs, rfl, SqL.of h1, OpPost.plain A hq q rfl⟩
theorem post_sum {vs : List V} (h : OpPost K s .sum false vs H Q) : rSum K.K vs H Q := by
  obtain ⟨g, st, ds, Qd, A, r, w, hq⟩ := h
  obtain ⟨a, rfl, es, bs, rfl, e2, q⟩ := any1_inv (show any1 ds _ from w)
  obtain ⟨x, rfl, p, us, rfl, h1, r1⟩ := r.to1
  cases ints_rep e2 r1
  exact ⟨p, bs, rfl, SqL.of h1, OpPost.plain A hq q rfl⟩
theorem maxL_spec : ∀ {ns : List Int}, ns ≠ [] → maxL ns ∈ ns ∧ ∀ y ∈ ns, y ≤ maxL ns
  | [], h => absurd rfl h
  | [a], _ => by simp [maxL]
  | a :: b :: l, _ => by
    obtain ⟨h1, h2⟩ := maxL_spec (ns := b :: l) (by simp)
    have e : maxL (a :: b :: l) = if maxL (b :: l) > a then maxL (b :: l) else a := by simp only [maxL]
    rw [e]
    split
    · rename_i h
      refine ⟨List.mem_cons_of_mem _ h1, fun y hy => ?_⟩
      rcases List.mem_cons.mp hy with rfl | hy
      · omega
      · exact h2 y hy
    · rename_i h
      refine ⟨List.mem_cons_self, fun y hy => ?_⟩
      rcases List.mem_cons.mp hy with rfl | hy
      · exact Int.le_refl _
      · have := h2 y hy; omega
theorem minL_spec : ∀ {ns : List Int}, ns ≠ [] → minL ns ∈ ns ∧ ∀ y ∈ ns, minL ns ≤ y
  | [], h => absurd rfl h
  | [a], _ => by simp [minL]
  | a :: b :: l, _ => by
    obtain ⟨h1, h2⟩ := minL_spec (ns := b :: l) (by simp)
    have e : minL (a :: b :: l) = if minL (b :: l) < a then minL (b :: l) else a := by simp only [minL]
    rw [e]
    split
    · rename_i h
      refine ⟨List.mem_cons_of_mem _ h1, fun y hy => ?_⟩
      rcases List.mem_cons.mp hy with rfl | hy
      · omega
      · exact h2 y hy
    · rename_i h
      refine ⟨List.mem_cons_self, fun y hy => ?_⟩
      rcases List.mem_cons.mp hy with rfl | hy
      · exact Int.le_refl _
      · have := h2 y hy; omega
theorem post_maxL {vs : List V} (h : OpPost K s .maxL false vs H Q) : rMax K.K vs H Q := by
  obtain ⟨g, st, ds, Qd, A, r, w, hq⟩ := h
  obtain ⟨a, rfl, es, ns, rfl, e2, hne, q⟩ := any1_inv (show any1 ds _ from w)
  obtain ⟨x, rfl, p, us, rfl, h1, r1⟩ := r.to1
  cases ints_rep e2 r1
  obtain ⟨m1, m2⟩ := maxL_spec hne
  refine ⟨p, ns, rfl, SqL.of h1, List.length_pos_iff.mpr hne, fun k hk hk2 => ?_⟩
  have e : k = maxL ns := Int.le_antisymm (m2 k hk) (hk2 _ m1)
  subst e
  exact OpPost.plain A hq q rfl
theorem post_minL {vs : List V} (h : OpPost K s .minL false vs H Q) : rMin K.K vs H Q := by
  obtain ⟨g, st, ds, Qd, A, r, w, hq⟩ := h
  obtain ⟨a, rfl, es, ns, rfl, e2, hne, q⟩ := any1_inv (show any1 ds _ from w)
  obtain ⟨x, rfl, p, us, rfl, h1, r1⟩ := r.to1
  cases ints_rep e2 r1
  obtain ⟨m1, m2⟩ := minL_spec hne
  refine ⟨p, ns, rfl, SqL.of h1, List.length_pos_iff.mpr hne, fun k hk hk2 => ?_⟩
  have e : k = minL ns := Int.le_antisymm (hk2 _ m1) (m2 k hk)
  subst e
  exact OpPost.plain A hq q rfl
end
section
variable {X : Cx} {ER : ExT} {Wx : WX} {C : Calls} {m : Bool}
theorem Reps.rng {K : Kc} {g : Gh} {n : Nat} {H : Hp} (a b : Int) : Reps K g n H (rngL a b) (rgV a b) := by
  unfold rngL rgV
  induction (List.range (b - a).toNat) with
  | nil => rfl
  | cons k l ih => exact ⟨_, _, rfl, rfl, ih⟩
/-- list(range(n)) -/
theorem se_rng1 {a : Expr} {ta : Ex} {p p2 pos pos2 : Pos} (hc : X.calm = true) (hg : Gl X "list") (hm : X.mg "list" = none) (hg2 : Gl X "range") (hm2 : X.mg "range" = none) (ha : SO X ER Wx C a ta) (hs : notStar a = true) :
    SE X ER Wx C (.Call (.Name "list" p) [.Call (.Name "range" p2) [a] [] pos2] [] pos) (.op .rng1 [ta]) m :=
  peImp (pe_listRg hc hg hm (prg_1 hg2 hm2 ha (star_of hs _ _)) (star_of rfl _ _)) fun s H Q h => rdO_mono (rdE_op1 h) fun x H1 h1 => by
    obtain ⟨g, st, ds, Qd, A, r, w, hq⟩ := h1
    obtain ⟨i, rfl, ⟨c1, c2⟩, q⟩ := int1_inv (show int1 ds _ from w)
    obtain ⟨a', e, r1⟩ := r.one
    cases e
    exact ⟨i, r1, ⟨by omega, by omega, by omega, by omega, by omega⟩, fun p hp => new_lst A hq q (Reps.rng _ _) hp⟩
/-- list(range(a, b)) -/
theorem se_rng2 {a b : Expr} {ta tb : Ex} {p p2 pos pos2 : Pos} (hc : X.calm = true) (hg : Gl X "list") (hm : X.mg "list" = none) (hg2 : Gl X "range") (hm2 : X.mg "range" = none) (ha : SO X ER Wx C a ta) (hs : notStar a = true) (hb : SO X ER Wx C b tb) (hs2 : notStar b = true) :
    SE X ER Wx C (.Call (.Name "list" p) [.Call (.Name "range" p2) [a, b] [] pos2] [] pos) (.op .rng2 [ta, tb]) m :=
  peImp (pe_listRg hc hg hm (prg_2 hg2 hm2 ha hb (star_of hs _ _) (star_of hs2 _ _) (star_any (by simp [hs2]) _ _)) (star_of rfl _ _)) fun s H Q h => rdO_mono (rdE_op2 h) fun x H1 h1 => rdO_mono h1 fun y H2 h2 => by
    obtain ⟨g, st, ds, Qd, A, r, w, hq⟩ := h2
    obtain ⟨i, j, rfl, ⟨c1, c2, c3, c4⟩, q⟩ := int2_inv (show int2 ds _ from w)
    obtain ⟨a', b', e, r1, r2⟩ := r.two
    cases e
    exact ⟨i, j, r1, r2, ⟨by omega, by omega, by omega, by omega, by omega⟩, fun p hp => new_lst A hq q (Reps.rng _ _) hp⟩
end
end Mp
namespace Mp
open PySem PySem.Spec L2
/-! ### the cells that data name -/
mutual
theorem Rep.lt {K : Kc} {g : Gh} {n : Nat} {H : Hp} : ∀ {d : D} {v : V}, Rep K g n H d v → cellsLt n d = true
  | .non, _, _ => rfl
  | .bl _, _, _ => rfl
  | .int _, _, _ => rfl
  | .str _, _, _ => rfl
  | .tup _, _, ⟨_, _, _, _, r⟩ => Reps.lt r
  | .lst _, _, ⟨_, _, _, _, r⟩ => Reps.lt r
  | .dic _ _, _, ⟨_, _, _, _, _, r1, r2⟩ => by unfold cellsLt; rw [Reps.lt r1, Reps.lt r2]; rfl
  | .obj _ _, _, ⟨_, _, _, _, r⟩ => Reps.lt r
  | .cell _, _, ⟨h, _⟩ => decide_eq_true h
  | .scr _, _, ⟨_, _, _, _, r⟩ => Reps.lt r
theorem Reps.lt {K : Kc} {g : Gh} {n : Nat} {H : Hp} : ∀ {ds : List D} {vs : List V}, Reps K g n H ds vs → cellsLts n ds = true
  | [], _, _ => rfl
  | _ :: _, _, ⟨_, _, _, h, t⟩ => by unfold cellsLts; rw [Rep.lt h, Reps.lt t]; rfl
end
mutual
theorem Rep.down {K : Kc} {g : Gh} {n n' : Nat} {H : Hp} : ∀ {d : D} {v : V}, Rep K g n H d v → cellsLt n' d = true → Rep K g n' H d v
  | .non, _, h, _ => h
  | .bl _, _, h, _ => h
  | .int _, _, h, _ => h
  | .str _, _, h, _ => h
  | .tup _, _, ⟨a, vs, e, h, r⟩, c => ⟨a, vs, e, h, Reps.down r c⟩
  | .lst _, _, ⟨a, vs, e, h, r⟩, c => ⟨a, vs, e, h, Reps.down r c⟩
  | .dic _ _, _, ⟨a, kk, ws, e, h, r1, r2⟩, c => by
    have c' : cellsLts n' _ = true ∧ cellsLts n' _ = true := Bool.and_eq_true_iff.mp (by unfold cellsLt at c; exact c)
    exact ⟨a, kk, ws, e, h, Reps.down r1 c'.1, Reps.down r2 c'.2⟩
  | .obj _ _, _, ⟨a, vs, e, h, r⟩, c => ⟨a, vs, e, h, Reps.down r c⟩
  | .cell _, _, ⟨_, e⟩, c => ⟨of_decide_eq_true c, e⟩
  | .scr _, _, ⟨a, vs, e, h, r⟩, c => ⟨a, vs, e, h, Reps.down r c⟩
theorem Reps.down {K : Kc} {g : Gh} {n n' : Nat} {H : Hp} : ∀ {ds : List D} {vs : List V}, Reps K g n H ds vs → cellsLts n' ds = true → Reps K g n' H ds vs
  | [], _, h, _ => h
  | _ :: _, _, ⟨v, r, e, h, t⟩, c => by
    have c' : cellsLt n' _ = true ∧ cellsLts n' _ = true := Bool.and_eq_true_iff.mp (by unfold cellsLts at c; exact c)
    exact ⟨v, r, e, Rep.down h c'.1, Reps.down t c'.2⟩
end
def slLt (n : Nat) : Sl → Bool
  | .un => true
  | .shr d => cellsLt n d
  | .own d => cellsLt n d
  | .exc _ ds => cellsLts n ds
def coLt (n : Nat) : CO → Bool
  | .dead => true
  | .lst ds => cellsLts n ds
  | .dic ks vs => cellsLts n ks && cellsLts n vs
  | .obj _ ds => cellsLts n ds
section
variable {K : Kc} {g : Gh} {n n' : Nat} {H : Hp}
theorem SlR.lt : ∀ {x : Sl} {ov : Option V}, SlR K g n H x ov → slLt n x = true
  | .un, _, _ => rfl
  | .shr _, _, ⟨_, _, r⟩ => r.lt
  | .exc _ _, _, ⟨_, _, _, _, _, _, _, _, _, _, _, _, r⟩ => r.lt
  | .own d, _, ⟨_, _, _, r⟩ => by
    cases d with
    | lst ds => obtain ⟨_, _, r⟩ := r; exact r.lt
    | dic ks es => obtain ⟨_, _, _, r1, r2⟩ := r; exact Bool.and_eq_true_iff.mpr ⟨r1.lt, r2.lt⟩
    | _ => exact r.elim
theorem SlR.down : ∀ {x : Sl} {ov : Option V}, SlR K g n H x ov → slLt n' x = true → SlR K g n' H x ov
  | .un, _, _, _ => trivial
  | .shr _, _, ⟨v, e, r⟩, c => ⟨v, e, r.down c⟩
  | .exc _ _, _, ⟨a, oe, dd, vs, e1, e2, e3, e4, e5, e6, e7, e8, r⟩, c => ⟨a, oe, dd, vs, e1, e2, e3, e4, e5, e6, e7, e8, r.down c⟩
  | .own d, _, ⟨a, e, m, r⟩, c => by
    cases d with
    | lst ds => obtain ⟨vs, h, r⟩ := r; exact ⟨a, e, m, vs, h, r.down c⟩
    | dic ks es =>
      obtain ⟨kk, ws, h, r1, r2⟩ := r
      have c' : cellsLts n' ks = true ∧ cellsLts n' es = true := Bool.and_eq_true_iff.mp (by unfold slLt cellsLt at c; exact c)
      exact ⟨a, e, m, kk, ws, h, r1.down c'.1, r2.down c'.2⟩
    | _ => exact r.elim
theorem CeR.lt {a : Addr} : ∀ {c : CO}, CeR K g n H a c → coLt n c = true
  | .dead, _ => rfl
  | .lst _, ⟨_, _, _, r⟩ => r.lt
  | .dic _ _, ⟨_, _, _, _, r1, r2⟩ => Bool.and_eq_true_iff.mpr ⟨r1.lt, r2.lt⟩
  | .obj _ _, ⟨_, _, _, r⟩ => r.lt
theorem CeR.down {a : Addr} : ∀ {c : CO}, CeR K g n H a c → coLt n' c = true → CeR K g n' H a c
  | .dead, h, _ => h
  | .lst _, ⟨m, vs, h, r⟩, c => ⟨m, vs, h, r.down c⟩
  | .dic ks vs, ⟨m, kk, ws, h, r1, r2⟩, c => by
    have c' : cellsLts n' ks = true ∧ cellsLts n' vs = true := Bool.and_eq_true_iff.mp (by unfold coLt at c; exact c)
    exact ⟨m, kk, ws, h, r1.down c'.1, r2.down c'.2⟩
  | .obj _ _, ⟨m, vs, h, r⟩, c => ⟨m, vs, h, r.down c⟩
/-- the last cell goes; what stood there is frozen -/
theorem Abs.uncell {e : List Sl} {h : List CO} {s : L2.St} {c : CO} (A : Abs K g ⟨e, h ++ [c]⟩ s H) (hc : c ≠ .dead) (he : ∀ (i : Nat) (x : Sl), e[i]? = some x → slLt h.length x = true) (hh : ∀ (l : Nat) (o : CO), h[l]? = some o → coLt h.length o = true) : Abs K (g.del (g.io h.length)) ⟨e, h⟩ s H := by
  have lv : Live (h ++ [c]) h.length := ⟨c, by simp, hc⟩
  have k : ∀ n, Kp g n H (g.del (g.io h.length)) n H := fun n => Kp.del
  have up : ∀ (l : Nat) (o : CO), h[l]? = some o → (h ++ [c])[l]? = some o := fun l o q => by rw [List.getElem?_append_left (lt_of_get q)]; exact q
  have lvu : ∀ l, Live h l → Live (h ++ [c]) l ∧ l ≠ h.length := fun l ⟨o, q1, q2⟩ => ⟨⟨o, up l o q1, q2⟩, Nat.ne_of_lt (lt_of_get q1)⟩
  have ne : ∀ l, Live h l → g.io l ≠ g.io h.length := fun l q z => (lvu l q).2 (A.cc l h.length (lvu l q).1 lv z)
  refine ⟨fun a z => ⟨z.1, A.mw a z.2⟩, fun a z => A.wt a z.2, fun i x q => ?_, A.oo, fun i a l q1 q2 => A.oc i a l q1 (lvu l q2).1, fun l o q => ?_, fun l m q1 q2 => A.cc l m (lvu l q1).1 (lvu m q2).1⟩
  · obtain ⟨ov, e1, r⟩ := A.sl i x q
    refine ⟨ov, e1, ?_⟩
    have r2 := r.down (he i x q)
    cases x with
    | un => trivial
    | shr d => obtain ⟨v, e2, r⟩ := r2; exact ⟨v, e2, r.kp (k _)⟩
    | exc c ds => exact r2.kpE (k _)
    | own d =>
      obtain ⟨a, e2, m, r⟩ := r2
      have na : a ≠ g.io h.length := fun z => A.oc i a h.length ⟨⟨d, q⟩, by rw [e1, e2]⟩ lv z.symm
      exact ⟨a, e2, ⟨na, m⟩, r.kp (k _) fun _ z => z⟩
  · have r2 := (A.ce l o (up l o q)).down (hh l o q)
    by_cases hd : o = .dead
    · subst hd; trivial
    · exact CeR.kp (k _) (fun _ z => z) (fun m => ⟨ne l ⟨o, q, hd⟩, m⟩) r2
end
/-! ### fields -/
theorem flds_few (c : Nat) : (fldsOf c).length < 1000 := by
  have h1 : ∀ p ∈ clsTab, p.2.length < 1000 := by decide
  have h2 : ∀ p ∈ excTab, p.2.length < 1000 := by decide
  unfold fldsOf clsE
  split
  · rw [List.getD_eq_getElem?_getD]
    cases e : clsTab[c]? with
    | none => simp
    | some p => exact h1 p (List.mem_of_getElem? e)
  · rw [List.getD_eq_getElem?_getD]
    cases e : excTab[c - 100]? with
    | none => simp
    | some p => exact h2 p (List.mem_of_getElem? e)
theorem putF_get {f : Str} {v : V} : ∀ {ks : List Str} {vs : List V} {i : Nat}, ks.idxOf? f = some i → (i < vs.length → putF f v (ks.zip vs) = ks.zip (vs.set i v)) ∧ (i = vs.length → putF f v (ks.zip vs) = ks.zip (vs ++ [v]))
  | [], _, _, e => by simp at e
  | a :: ks, vs, i, e => by
    rw [List.idxOf?_cons] at e
    by_cases h : a = f
    · subst h
      simp at e
      subst e
      cases vs with
      | nil => exact ⟨fun z => absurd z (Nat.lt_irrefl _), fun _ => by simp [putF]⟩
      | cons b vs => exact ⟨fun _ => by simp [putF], fun z => by simp at z⟩
    · have h1 : (a == f) = false := by simpa using h
      rw [h1] at e
      simp only [Bool.false_eq_true, if_false, Option.map_eq_some_iff] at e
      obtain ⟨j, e3, rfl⟩ := e
      cases vs with
      | nil => exact ⟨fun z => absurd z (Nat.not_lt_zero _), fun z => by simp at z⟩
      | cons b vs =>
        obtain ⟨h2, h3⟩ := putF_get (v := v) (vs := vs) e3
        refine ⟨fun z => ?_, fun z => ?_⟩
        · have z' : j < vs.length := by simpa using z
          simp [putF, h, h2 z']
        · have z' : j = vs.length := by simpa using z
          simp [putF, h, h3 z']
theorem objAt_inv {st : Stt} {i l c : Nat} {fs : List D} (h : objAt st i = some (l, c, fs)) : st.e[i]? = some (.shr (.cell l)) ∧ st.h[l]? = some (.obj c fs) := by
  unfold objAt at h
  split at h
  · split at h
    · cases h; exact ⟨by assumption, by assumption⟩
    · cases h
  · cases h
section
variable {X : Cx} {ER : ExT} {Wx : WX} {C : Calls} {m : Bool}
/-- self.f = e -/
theorem ss_setF {x f : Str} {i : Nat} {e : Expr} {t : Ex} {p p2 pos : Pos} (kt : KitB X.K = true) (hN : X.N[i]? = some x) (hv : Vis X.env.scope x) (hd : (x == ("__debug__" : Str)) = false) (hcd : (x == ("__classdict__" : Str)) = false) (h : SE X ER Wx C e t false) (hs : notComp e = true) :
    SS X ER Wx C m (.Assign [.Attribute (.Name x p) f p2] e pos) (.setF i f t) :=
  psImp (ps_fld (pe_var hN hv hd hcd) h (swaps_of hs _ _ _)) fun D s H ⟨g, st, E, A, w, hn, hr, hb, hc, hx⟩ => by
    simp only [wS] at w
    refine ⟨g, st, _, _, A, w, fun d st1 v g1 H1 ⟨l, c, fs, fs', ho, hp, q⟩ x1 A1 r1 => ?_, fun c fs st' cls dd g' H' q x A' r => hx _ _ _ _ _ _ _ _ q x A' r⟩
    obtain ⟨o1, o2⟩ := objAt_inv ho
    obtain ⟨ov, e1, v', e2, hl, ev⟩ := A1.sl i _ o1
    subst ev
    obtain ⟨ma, vs, ⟨hk, hlen, dx, hH⟩, rv⟩ := A1.ce l _ o2
    obtain ⟨k0, k01, _⟩ := KitB.at kt hk
    unfold putFl at hp
    split at hp
    · rename_i k hix
      have hm := ix_mem hix
      have hkl : k < (fldsOf c).length := by
        have := List.findIdx?_eq_some_iff_getElem.mp (show (fldsOf c).findIdx? (· == f) = some k from hix)
        exact this.1
      refine ⟨.ref (g1.io l), by rw [e1, e2], g1.io l, CL (kz X) c, dx, _, rfl, hH, (clsB_ok k0).1, k01 f hm, ?_, ?_⟩
      · rw [List.length_zip]
        have := flds_few c
        omega
      · have hput : ∃ vs', Reps (kz X) g1 st1.h.length H1 fs' vs' ∧ vs'.length ≤ (fldsOf c).length ∧ putF f v ((fldsOf c).zip vs) = (fldsOf c).zip vs' := by
          have hvl := rv.length
          obtain ⟨q1, q2⟩ := putF_get (v := v) (vs := vs) hix
          split at hp
          · rename_i hlt
            cases hp
            exact ⟨_, rv.set k r1, by rw [List.length_set]; exact hlen, q1 (by omega)⟩
          · split at hp
            · rename_i heq
              cases hp
              refine ⟨_, rv.append ⟨v, [], rfl, r1, rfl⟩, ?_, q2 (by omega)⟩
              rw [List.length_append]
              have : [v].length = 1 := rfl
              omega
            · cases hp
        obtain ⟨vs', rv', hl', ep⟩ := hput
        rw [ep]
        have cn : CeR (kz X) g1 st1.h.length (upd H1 (g1.io l) (.ins (CL (kz X) c) dx ((fldsOf c).zip vs'))) (g1.io l) (.obj c fs') := ⟨ma, vs', ⟨hk, hl', dx, upd_same⟩, rv'.kp (Kp.write (A1.mw _ ma) _)⟩
        obtain ⟨A3, x3⟩ := A1.writeC o2 (by intro z; cases z) (by intro z; cases z) _ cn
        exact hn _ _ _ _ q (x1.trans x3) A3
    · cases hp
end
end Mp
namespace Mp
open PySem PySem.Spec L2
/-! ### == of two lists, some items of which are mutable objects -/
section
variable {K : Kc} {s : L2.St} {H : Hp} {Q : VK}
/-- an item against another one -/
def ItE (K : PySem.W.Frag) (H : Hp) (x y : V) (k : Bool) : Prop := (∃ a, x = .ref a ∧ y = .ref a ∧ k = true) ∨ ∃ d e, Dp K H x d ∧ Dp K H y e ∧ SeqAt.shaped d = true ∧ SeqAt.shaped e = true ∧ k = PyData.eqv d e
def ItEs (K : PySem.W.Frag) (H : Hp) : List V → List V → Bool → Prop
  | [], [], k => k = true
  | x :: xs, y :: ys, k => ∃ a b, ItE K H x y a ∧ ItEs K H xs ys b ∧ k = (a && b)
  | _, _, k => k = false
def rEqL (K : PySem.W.Frag) (neg : Bool) : R2 := fun x y H Q => ∃ a b xs ys k, x = .ref a ∧ y = .ref b ∧ SqL K H a xs ∧ SqL K H b ys ∧ ItEs K H xs ys k ∧ Q (.bl (if neg then !k else k)) H
theorem itE_of {g : Gh} {n : Nat} {a b : D} {x y : V} {k : Bool} (h : itEq a b = some k) (r1 : Rep K g n H a x) (r2 : Rep K g n H b y) : ItE K.K H x y k := by
  unfold itEq at h
  split at h
  · split at h
    · rename_i l m e; subst e
      cases h
      exact .inl ⟨_, r1.2, r2.2, rfl⟩
    · cases h
  · split at h
    · rename_i e
      cases h
      obtain ⟨f1, f2⟩ := Bool.and_eq_true_iff.mp e
      exact .inr ⟨_, _, r1.vw.dp f1, r2.vw.dp f2, flat_shaped f1 (by decide), flat_shaped f2 (by decide), (eqv_eqD f1 f2).symm⟩
    · cases h
theorem itEs_of {g : Gh} {n : Nat} : ∀ {as bs : List D} {xs ys : List V} {k : Bool}, itEqs as bs = some k → Reps K g n H as xs → Reps K g n H bs ys → ItEs K.K H xs ys k
  | [], [], _, _, k, h, r1, r2 => by cases r1; cases r2; cases h; rfl
  | [], _ :: _, _, _, k, h, r1, r2 => by cases r1; obtain ⟨_, _, e, _⟩ := r2; subst e; cases h; rfl
  | _ :: _, [], _, _, k, h, r1, r2 => by cases r2; obtain ⟨_, _, e, _⟩ := r1; subst e; cases h; rfl
  | a :: as, b :: bs, _, _, k, h, ⟨x, xs, e1, r1, t1⟩, ⟨y, ys, e2, r2, t2⟩ => by
    subst e1; subst e2
    unfold itEqs at h
    split at h
    · rename_i p q e3 e4
      cases h
      exact ⟨p, q, itE_of e3 r1 r2, itEs_of e4 t1 t2, rfl⟩
    · cases h
theorem post_eqLW {neg : Bool} {x y : V} {o : Op} (ho : ∀ ds Qd, opW o ds Qd = eqLW neg ds Qd) (h : OpPost K s o false [x, y] H Q) : rEqL K.K neg x y H Q := by
  obtain ⟨g, st, ds, Qd, A, r, w, hq⟩ := h
  rw [ho] at w
  unfold eqLW at w
  split at w
  · obtain ⟨k, e, q⟩ := w
    obtain ⟨a', b', e2, r1, r2⟩ := r.two
    cases e2
    obtain ⟨a, vs, rfl, h1, t1⟩ := r1
    obtain ⟨b, ws, rfl, h2, t2⟩ := r2
    exact ⟨a, b, vs, ws, k, rfl, rfl, .inl (.inl h1), .inl (.inl h2), itEs_of e t1 t2, OpPost.plain A hq q (by cases neg <;> rfl)⟩
  · cases w
end
section
variable {X : Cx} {pins : List (Addr × Obj)} {σ : L2.St} {H : Hp} {s : Shared}
theorem itE_run (I : Inv X pins σ H s) {A : Around} (hu : A.units + 64 < cLine) {x y : V} {v u : Value} {k : Bool} (h : ItE X.K H x y k) (rx : RelV x v) (ry : RelV y u) : SeqAt.EqAt A s v u k := by
  rcases h with ⟨a, rfl, rfl, rfl⟩ | ⟨d, e, hd, he, sd, se, rfl⟩
  · cases (show v = Value.ref a from rx)
    cases (show u = Value.ref a from ry)
    exact SeqAt.EqAt.same _
  · obtain ⟨as, r1⟩ := Dp.reads I d x v hd rx
    obtain ⟨bs, r2⟩ := Dp.reads I e y u he ry
    exact SeqAt.eqAt_reads d e A s v u as bs r1 r2 (SeqAt.canLay_of_shaped sd) (SeqAt.canLay_of_shaped se) (SeqAt.room_of_shaped sd hu)
theorem itEs_run (I : Inv X pins σ H s) {A : Around} (hu : A.units + 64 < cLine) : ∀ {xs ys : List V} {us ws : List Value} {k : Bool}, ItEs X.K H xs ys k → Vals xs us → Vals ys ws →
    (us.length = ws.length ∧ ∃ e : Nat → Bool, (∀ j (h1 : j < us.length) (h2 : j < ws.length), SeqAt.EqAt A s us[j] ws[j] (e j)) ∧ k = (List.range us.length).all e) ∨ (us.length ≠ ws.length ∧ k = false)
  | [], [], _, _, k, h, r1, r2 => by
    cases r1; cases r2; cases h
    exact .inl ⟨rfl, fun _ => true, fun j h1 => by simp at h1, rfl⟩
  | [], _ :: _, _, _, k, h, r1, r2 => by
    cases r1; cases r2; cases h
    exact .inr ⟨by simp, rfl⟩
  | _ :: _, [], _, _, k, h, r1, r2 => by
    cases r1; cases r2; cases h
    exact .inr ⟨by simp, rfl⟩
  | x :: xs, y :: ys, _, _, k, ⟨a, b, h1, h2, e⟩, .cons rx r1, .cons ry r2 => by
    rcases itEs_run I hu h2 r1 r2 with ⟨e1, f, h3, h4⟩ | ⟨e1, e2⟩
    · refine .inl ⟨congrArg Nat.succ e1, fun j => match j with | 0 => a | j + 1 => f j, fun j q1 q2 => ?_, ?_⟩
      · cases j with
        | zero => exact itE_run I hu h1 rx ry
        | succ j => exact h3 j (by simpa using q1) (by simpa using q2)
      · rw [e, h4, List.length_cons, List.range_succ_eq_map, List.all_cons, List.all_map]
        rfl
    · refine .inr ⟨fun z => e1 (by simpa using z), ?_⟩
      rw [e, e2, Bool.and_false]
theorem op_eqL (hu : X.A.units + 65 < cLine) : OpR X (compareOp .Eq) (rEqL X.K false) := by
  intro pins s σ H x y v u Q I rx ry h
  obtain ⟨a, b, xs, ys, k, rfl, rfl, ha, hb, he, q⟩ := h
  cases (show v = Value.ref a from rx)
  cases (show u = Value.ref b from ry)
  obtain ⟨us, r1, p1, _⟩ := I.list ha
  obtain ⟨ws, r2, p2, _⟩ := I.list hb
  rcases itEs_run I (A := X.A.in1) (by show X.A.units + 1 + 64 < cLine; omega) he r1 r2 with ⟨e1, f, h3, h4⟩ | ⟨e1, e2⟩
  · refine SeqAt.RcAt.lists (e := f) p1.isList p2.isList (by simpa using e1) (by omega) (fun j h1 h2 => ?_) X.prog X.w _ _ ⟨.bl _, H, I, ?_, q⟩
    · have z := h3 j (by simpa using h1) (by simpa using h2)
      simpa using z
    · rw [h4, List.size_toArray]
      rfl
  · refine SeqAt.RcAt.lists_lengths p1.isList p2.isList (by simpa using e1) (by omega) X.prog X.w _ _ ⟨.bl _, H, I, ?_, q⟩
    rw [e2]
    rfl
theorem op_neL (hu : X.A.units + 65 < cLine) : OpR X (compareOp .NotEq) (rEqL X.K true) := by
  intro pins s σ H x y v u Q I rx ry h
  obtain ⟨a, b, xs, ys, k, rfl, rfl, ha, hb, he, q⟩ := h
  cases (show v = Value.ref a from rx)
  cases (show u = Value.ref b from ry)
  obtain ⟨us, r1, p1, _⟩ := I.list ha
  obtain ⟨ws, r2, p2, _⟩ := I.list hb
  rcases itEs_run I (A := X.A.in1) (by show X.A.units + 1 + 64 < cLine; omega) he r1 r2 with ⟨e1, f, h3, h4⟩ | ⟨e1, e2⟩
  · refine SeqAt.RcNeAt.lists (e := f) p1.isList p2.isList (by simpa using e1) (by omega) (fun j h1 h2 => ?_) X.prog X.w _ _ ⟨.bl _, H, I, ?_, q⟩
    · have z := h3 j (by simpa using h1) (by simpa using h2)
      simpa using z
    · rw [h4, List.size_toArray]
      rfl
  · refine SeqAt.RcNeAt.lists_lengths p1.isList p2.isList (by simpa using e1) (by omega) X.prog X.w _ _ ⟨.bl _, H, I, ?_, q⟩
    rw [e2]
    rfl
end
end Mp
namespace Mp
open PySem PySem.Spec L2
/-! ### more tests -/
section
variable {X : Cx} {ER : ExT} {Wx : WX} {C : Calls} {m : Bool}
theorem st_isNotN {j : Nat} {p pos : Pos} {a : Expr} {ta : Ex} (ha : SO X ER Wx C a ta) : ST X ER Wx C (.Compare a [.IsNot] [.Constant .none j p] pos) (.tb (.op .isNotN [ta])) :=
  ptImp (pt_cmp (pc_notN ha)) fun s H Q h => rdO_mono (rdE_op1 (rdT_tb h)) fun x H1 h1 => by
    obtain ⟨g, st, ds, Qd, A, r, w, hq⟩ := h1
    obtain ⟨a, rfl, w2⟩ := any1_inv (show any1 ds _ from w)
    obtain ⟨x', e, r1⟩ := r.to1
    cases e
    refine OpPost.plain A hq w2 ?_
    cases a with
    | non => cases (show x = V.non from r1); rfl
    | bl b => cases (show x = V.bl b from r1); rfl
    | int b => cases (show x = V.int b from r1); rfl
    | str b => cases (show x = V.str b from r1); rfl
    | lst b => obtain ⟨_, _, e, _⟩ := r1; cases e; rfl
    | tup b => obtain ⟨_, _, e, _⟩ := r1; cases e; rfl
    | dic b c => obtain ⟨_, _, _, e, _⟩ := r1; cases e; rfl
    | cell l => obtain ⟨_, e⟩ := r1; cases e; rfl
    | scr b => obtain ⟨_, _, e, _⟩ := r1; cases e; rfl
    | obj b c => obtain ⟨_, _, e, _⟩ := r1; cases e; rfl
    | exc b c => exact r1.elim
theorem st_isB {a : Expr} {ta : Ex} {b : Bool} {j : Nat} {p pos : Pos} (ha : SO X ER Wx C a ta) : ST X ER Wx C (.Compare a [.Is] [.Constant (.bool b) j p] pos) (.tb (.op (if b then .isT else .isF) [ta])) :=
  ptImp (pt_cmpR op_isBl ha pe_bl (nomark _)) fun s H Q h => rdO_mono (rdE_op1 (rdT_tb h)) fun x H1 h1 => by
    obtain ⟨g, st, ds, Qd, A, r, w, hq⟩ := h1
    have w' : any1 ds fun a => isBW b false a Qd := by cases b <;> exact w
    obtain ⟨a, rfl, w2⟩ := any1_inv w'
    obtain ⟨x', e, r1⟩ := r.to1
    cases e
    cases a with
    | bl c => exact ⟨c, b, r1, rfl, OpPost.plain A hq w2 rfl⟩
    | _ => exact (show False from w2).elim
theorem st_isNB {a : Expr} {ta : Ex} {b : Bool} {j : Nat} {p pos : Pos} (ha : SO X ER Wx C a ta) : ST X ER Wx C (.Compare a [.IsNot] [.Constant (.bool b) j p] pos) (.tb (.op (if b then .isNT else .isNF) [ta])) :=
  ptImp (pt_cmpR op_notBl ha pe_bl (nomark _)) fun s H Q h => rdO_mono (rdE_op1 (rdT_tb h)) fun x H1 h1 => by
    obtain ⟨g, st, ds, Qd, A, r, w, hq⟩ := h1
    have w' : any1 ds fun a => isBW b true a Qd := by cases b <;> exact w
    obtain ⟨a, rfl, w2⟩ := any1_inv w'
    obtain ⟨x', e, r1⟩ := r.to1
    cases e
    cases a with
    | bl c => exact ⟨c, b, r1, rfl, OpPost.plain A hq w2 rfl⟩
    | _ => exact (show False from w2).elim
theorem st_chn {op op' : CmpOp} {o o' : Op} {r r' : R2} {a b c : Expr} {ta tb tc : Ex} {pos : Pos} (ho : OpR X (compareOp op) r) (ho' : OpR X (compareOp op') r') (hr : ∀ {s H Q x y}, OpPost (kz X) s o false [x, y] H Q → r x y H Q) (hr' : ∀ {s H Q x y}, OpPost (kz X) s o' false [x, y] H Q → r' x y H Q)
    (ha : SE X ER Wx C a ta false) (hb : SE X ER Wx C b tb false) (hc : SE X ER Wx C c tc false) (hm : lastMarks [op, op'] [b, c] = false) : ST X ER Wx C (.Compare a [op, op'] [b, c] pos) (.tb (.chn o o' ta tb tc)) :=
  ptImp (pt_chain ho ho' ha hb hc hm) fun s H Q h => by
    obtain ⟨g, st, Qd, Xd, A, w, hq, hx⟩ := rdT_tb h
    simp only [wE] at w
    refine ⟨g, st, _, Xd, A, w, fun d st1 v g1 H1 w1 x1 A1 r1 => ?_, hx⟩
    refine ⟨g1, st1, _, Xd, A1, w1, fun d2 st2 v2 g2 H2 w2 x2 A2 r2 => @hr s _ _ _ _ ?_, fun c fs st' cls dd g' H' q x A r => hx c fs st' cls dd g' H' q (x1.trans x) A r⟩
    have r1' := Rep.kp (x2.kp A1.mw) r1
    refine ⟨g2, st2, [view st2.h d, view st2.h d2], _, A2, ⟨v, [v2], rfl, A2.view r1', v2, [], rfl, A2.view r2, rfl⟩, w2, fun d3 v3 g3 H3 ⟨k, ek, w3⟩ x3 A3 r3 => ⟨k, ?_, ?_⟩⟩
    · subst ek
      exact r3
    · have x13 := (x1.trans x2).trans x3
      cases k with
      | false => exact hq _ _ _ _ _ w3 x13 A3 rfl
      | true =>
        refine ⟨g3, st2, _, Xd, A3, w3, fun d4 st4 v4 g4 H4 w4 x4 A4 r4 => @hr' s _ _ _ _ ?_, fun c fs st' cls dd g' H' q x A r => hx c fs st' cls dd g' H' q (x13.trans x) A r⟩
        have r2' := Rep.kp (x4.kp A3.mw) (Rep.kp (x3.kp A2.mw) r2)
        exact ⟨g4, st4, [view st4.h d2, view st4.h d4], _, A4, ⟨v2, [v4], rfl, A4.view r2', v4, [], rfl, A4.view r4, rfl⟩, w4, fun d5 v5 g5 H5 w5 x5 A5 r5 => hq _ _ _ _ _ w5 ((x13.trans x4).trans x5) A5 r5⟩

/-! ### tests -/
/-- what is held alone, by nobody yet, is shared from now on -/
theorem Abs.share {K : Kc} {g : Gh} {st : Stt} {s : L2.St} {H : Hp} (A : Abs K g st s H) {a : Addr} {d : D} (m : g.M a) (r : OwR K g st.h.length H a d) (no : ∀ i, ¬ OwnAt st.e s i a) (nc : ∀ l, Live st.h l → g.io l ≠ a) :
    Abs K (g.del a) st s H ∧ Ext g st.h.length H (g.del a) st.h.length H ∧ Rep K (g.del a) st.h.length H d (.ref a) := by
  have k : Kp g st.h.length H (g.del a) st.h.length H := Kp.del
  have rd : Rep K (g.del a) st.h.length H d (.ref a) := by
    cases d with
    | lst ds => obtain ⟨vs, h, q⟩ := r; exact ⟨a, vs, rfl, ⟨h, fun z => z.1 rfl⟩, q.kp k⟩
    | dic ks es => obtain ⟨kk, ws, h, q1, q2⟩ := r; exact ⟨a, kk, ws, rfl, ⟨h, fun z => z.1 rfl⟩, q1.kp k, q2.kp k⟩
    | _ => exact r.elim
  refine ⟨⟨fun b z => ⟨z.1, A.mw b z.2⟩, fun b z => A.wt b z.2, fun j x h => ?_, A.oo, A.oc, fun l o h => ?_, A.cc⟩,
    ⟨fun _ _ h _ => h, fun b o h m' => ⟨fun z => z.2, fun z => ⟨fun e => m' (by rw [e]; exact m), z⟩⟩, fun b o h m' z => m' z.2, fun _ _ => rfl, Nat.le_refl _⟩, rd⟩
  · obtain ⟨ov, f1, q⟩ := A.sl j x h
    refine ⟨ov, f1, ?_⟩
    cases x with
    | un => trivial
    | shr d' => obtain ⟨v, f2, q⟩ := q; exact ⟨v, f2, q.kp k⟩
    | exc c' d' => exact q.kpE k
    | own d' =>
      obtain ⟨b, f2, m', q⟩ := q
      have nb : b ≠ a := fun z => no j ⟨⟨d', h⟩, by rw [f1, f2, z]⟩
      exact ⟨b, f2, ⟨nb, m'⟩, q.kp k fun _ z => z⟩
  · have c := A.ce l o h
    by_cases hd : o = .dead
    · subst hd; trivial
    · have nl : g.io l ≠ a := nc l ⟨o, h, hd⟩
      exact CeR.kp k (fun _ z => z) (fun z => ⟨nl, z⟩) c
theorem SE.share {e : Expr} {t : Ex} (h : SE X ER Wx C e t true) : SE X ER Wx C e t false :=
  peImp h fun s H Q ⟨g, st, Qd, Xd, A, w, hq, hx⟩ => ⟨g, st, Qd, Xd, A, w, fun d st1 v g1 H1 w1 x1 A1 r1 => by
    rcases r1 with ⟨a, rfl, m1, r, no, nc⟩ | ⟨sc, r⟩
    · obtain ⟨A2, x2, r2⟩ := A1.share m1 r no nc
      exact hq _ _ _ _ _ w1 (x1.trans x2) A2 r2
    · exact hq _ _ _ _ _ w1 x1 A1 r, hx⟩
end
end Mp
/-! the check that a text is a small program's -/
namespace Mp
open PySem PySem.Spec L2

/-- the shape of a call: how many by position, the keywords, what comes to the parameters -/
abbrev ShT := Nat × List Str × List (Sum Nat D)
structure Cz where
  N : List Str
  sc : List (Str × NameKind)
  fl : Option (List Str)
  glo : List (Str × D)
  fns : List (Str × Nat × Bool × List ShT)
  calm : Bool
  fr : Bool
  kn : List Nat
  xn : List Nat

def bltNames : List Str := ["len", "abs", "max", "min", "int", "str", "repr", "list", "tuple", "isinstance", "range", "bool", "dict", "all", "any", "sum", "sorted", "set"]
def oddName (x : Str) : Bool := (x == ("__debug__" : Str)) || (x == ("__classdict__" : Str)) || decide (x = "__name__")
def visB (z : Cz) (x : Str) : Bool := match z.sc.lookup x with
  | some .local => true
  | some .cell => true
  | some .free => true
  | _ => false
def locB (z : Cz) (x : Str) : Bool := match z.sc.lookup x with
  | some .local => true
  | some .cell => (match z.fl with
    | none => true
    | some l => l.contains x)
  | _ => false
def glB (z : Cz) (x : Str) : Bool := decide (z.sc.lookup x = some .globalImplicit) && !oddName x
def slotOk (z : Cz) (e : Expr) (i : Nat) : Bool := match e with
  | .Name x _ => decide (z.N[i]? = some x) && visB z x && !oddName x
  | _ => false
def conEq : D → D → Bool
  | .non, .non => true
  | .bl a, .bl b => a == b
  | .int a, .int b => decide (a = b)
  | .str a, .str b => decide (a = b)
  | _, _ => false
theorem conEq_eq : ∀ {a b : D}, conEq a b = true → a = b ∧ ∃ v, conV a = some v
  | .non, .non, _ => ⟨rfl, _, rfl⟩
  | .bl a, .bl b, h => by
    have : a = b := by simpa [conEq] using h
    subst this; exact ⟨rfl, _, rfl⟩
  | .int a, .int b, h => by
    have : a = b := by simpa [conEq] using h
    subst this; exact ⟨rfl, _, rfl⟩
  | .str a, .str b, h => by
    have : a = b := by simpa [conEq] using h
    subst this; exact ⟨rfl, _, rfl⟩
def conOk (z : Cz) (e : Expr) (d : D) : Bool := match e with
  | .Constant (.int i) _ _ => conEq d (.int i)
  | .Constant (.bool b) _ _ => conEq d (.bl b)
  | .Constant .none _ _ => conEq d .non
  | .Constant (.str x) _ _ => conEq d (.str x)
  | .Name x _ => glB z x && z.glo.any fun p => decide (p.1 = x) && conEq p.2 d
  | _ => false
def binO : Operator → Option Op
  | .Add => some .add
  | .Sub => some .sub
  | .Mult => some .mul
  | .FloorDiv => some .fdiv
  | .Mod => some .mod
  | .Pow => some .pow
  | _ => none
def cmpO : CmpOp → Option Op
  | .Eq => some .eq
  | .NotEq => some .ne
  | .Lt => some .lt
  | .LtE => some .le
  | .Gt => some .gt
  | .GtE => some .ge
  | .In => some .in_
  | .NotIn => some .notIn
  | _ => none
/-- built-in functions by their names -/
def cmpOk (op : CmpOp) (o : Op) : Bool := decide (cmpO op = some o) || (decide (op = .Eq) && decide (o = .eqL)) || (decide (op = .NotEq) && decide (o = .neL))
def bltO (x : Str) (n : Nat) : Option Op :=
  if x = "len" then some .len else if x = "abs" then some .abs else if x = "max" ∧ n = 2 then some .max2 else if x = "min" ∧ n = 2 then some .min2
  else if x = "int" then some .toInt else if x = "str" then some .toStr else if x = "repr" then some .repr else if x = "list" then some .toList else if x = "tuple" then some .toTuple
  else if x = "all" then some .all else if x = "any" then some .any else if x = "sum" then some .sum else if x = "max" then some .maxL else if x = "min" then some .minL else none
/-- these are walked where no exception is handled -/
def needCalm : Op → Bool
  | .max2 => true
  | .min2 => true
  | .toList => true
  | .all => true
  | .any => true
  | .sum => true
  | .maxL => true
  | .minL => true
  | _ => false
/-- a class by its name -/
def tyE (z : Cz) (e : Expr) (t : Ty) : Bool := match e, t with
  | .Name y _, .own c => z.kn.contains c && decide (y = clsN c) && glB z y
  | .Name y _, t => decide (y = Str.ofString (tyName t)) && glB z y && bltNames.contains y
  | _, _ => false
def tyEs (z : Cz) : List Expr → List Ty → Bool
  | [], [] => true
  | e :: es, t :: ts => tyE z e t && tyEs z es ts
  | _, _ => false
/-- a text's method, of a constant -/
def mtCO (x : Str) : Option Op := if x = "join" then some .join else if x = "find" then some .find else if x = "startswith" then some .starts else none
/-- a text's method, with a constant -/
def mtAO (x : Str) : Option Op := if x = "split" then some .split else if x = "removeprefix" then some .rmpre else if x = "startswith" then some .starts else if x = "find" then some .find else none
def isStrC : Expr → Option Str
  | .Constant (.str x) _ _ => some x
  | _ => none
def conS : Ex → Option Str
  | .con (.str x) => some x
  | _ => none
def cA (r : Expr → Ex → Bool) : List Expr → List Ex → Bool
  | [], [] => true
  | e :: es, t :: ts => notStar e && r e t && cA r es ts
  | _, _ => false
def cK (r : Expr → Ex → Bool) : List Keyword → List Ex → Bool
  | [], [] => true
  | ⟨_, e, _⟩ :: es, t :: ts => r e t && cK r es ts
  | _, _ => false
def arEq : List (Sum Nat D) → List (Sum Nat D) → Bool
  | [], [] => true
  | .inl a :: as, .inl b :: bs => decide (a = b) && arEq as bs
  | .inr a :: as, .inr b :: bs => conEq a b && arEq as bs
  | _, _ => false
theorem arEq_eq : ∀ {a b : List (Sum Nat D)}, arEq a b = true → a = b
  | [], [], _ => rfl
  | .inl a :: as, .inl b :: bs, h => by
    have h' : a = b ∧ arEq as bs = true := by simpa [arEq] using h
    rw [h'.1, arEq_eq h'.2]
  | .inr a :: as, .inr b :: bs, h => by
    have h' : conEq a b = true ∧ arEq as bs = true := by simpa [arEq] using h
    rw [(conEq_eq h'.1).1, arEq_eq h'.2]
def isCst : Expr → Bool
  | .Constant _ _ _ => true
  | _ => false
def isNone : Expr → Bool
  | .Constant .none _ _ => true
  | _ => false
def tyOf : Expr → Option (Str)
  | .Name x _ => some x
  | _ => none
def notSlice : Expr → Bool
  | .Slice _ _ _ _ => false
  | _ => true
/-- operations; r: the check of an operand -/
def opOk (r : Expr → Ex → Bool) (z : Cz) (m : Bool) (e : Expr) (o : Op) (ts : List Ex) : Bool := match e with
  | .BinOp a op b _ => !m && decide (binO op = some o) && (match ts with
    | [ta, tb] => r a ta && r b tb
    | _ => false)
  | .UnaryOp .USub a _ => !m && decide (o = .neg) && (match ts with
    | [ta] => r a ta
    | _ => false)
  | .Compare a [op] [b] _ => !m && (match ts with
    | [ta, tb] => cmpOk op o && r a ta && r b tb && !behindInMarks op b
    | [ta] => r a ta && (match b with
      | .Constant .none _ _ => (decide (op = .Is) && decide (o = .isN)) || (decide (op = .IsNot) && decide (o = .isNotN))
      | .Constant (.bool k) _ _ => (decide (op = .Is) && decide (o = if k then .isT else .isF)) || (decide (op = .IsNot) && decide (o = if k then .isNT else .isNF))
      | _ => false)
    | _ => false)
  | .Subscript a (.Slice lo hi none _) _ => !m && decide (o = .sl lo.isSome hi.isSome) && (match lo, hi, ts with
    | none, none, [ta] => r a ta
    | some x, none, [ta, tb] => r a ta && r x tb
    | none, some x, [ta, tb] => r a ta && r x tb
    | _, _, _ => false)
  | .Subscript a b _ => !m && decide (o = .item) && notSlice b && (match ts with
    | [ta, tb] => r a ta && r b tb
    | _ => false)
  | .Attribute a f _ => !m && decide (o = .fld f) && baseOk a && (match ts with
    | [ta] => r a ta
    | _ => false)
  | .Call (.Attribute a name apos) [x] [] pos => (apos.endLine == pos.line) && (match ts with
    | [ta, tx] => (match isStrC a, conS ta with
      | some z1, some z2 => decide (z1 = z2) && notStar x && r x tx && !m && (decide (mtCO name = some o) || (decide (name = "index") && decide (o = .index) && z.calm))
      | _, _ => (match isStrC x, conS tx with
        | some z1, some z2 => decide (z1 = z2) && baseOk a && r a ta && decide (mtAO name = some o) && (!m || decide (o = .split))
        | _, _ => false))
    | _ => false)
  | .Call (.Name x _) (a :: as) [] _ => glB z x && bltNames.contains x && (
    (decide (bltO x (as.length + 1) = some o) && (!m || decide (o = .toList)) && (z.calm || !needCalm o) && cA r (a :: as) ts) ||
    (!m && decide (x = "isinstance") && notStar a && (match o, as, ts with
      | .isi [t] false, [c], [ta] => r a ta && tyE z c t
      | .isi us true, [.Tuple cs _ _], [ta] => r a ta && tyEs z cs us && decide (us.length ≤ 1000)
      | _, _, _ => false)) ||
    (decide (x = "list") && z.calm && (match a, as, o, ts with
      | .Call (.Name y _) [b] [] _, [], .rng1, [tb] => decide (y = "range") && glB z y && notStar b && r b tb
      | .Call (.Name y _) [b, c] [] _, [], .rng2, [tb, tc] => decide (y = "range") && glB z y && notStar b && notStar c && r b tb && r c tc
      | _, _, _, _ => false)))
  | _ => false
def relN (names sc : List (Str × NameKind)) : List (Str × NameKind) := names.map fun (n, k) => if (k == .free && sc.lookup n == some .cell) then (n, .cell) else (n, k)
def Cz.blk (z : Cz) (names : List (Str × NameKind)) : Cz := { z with sc := relN names z.sc, fl := some (names.filterMap fun p => if p.2 = .cell then some p.1 else none) }
def ownOf (N : List Str) (own : List Nat) : List (Str × Nat) := own.filterMap fun i => (N[i]?).map fun x => (x, i)
def blkOk (z : Cz) (scope : Scope) (own : List Nat) : Bool :=
  decide (scope.kind = .function) && scope.names.all (fun y => decide (scope.names.lookup y.1 = some y.2)) && decide ((ownOf z.N own).map (·.2) = own) &&
  scope.names.all (fun y => decide (y.2 ≠ .free) || decide (z.sc.lookup y.1 = some .cell) || decide (z.sc.lookup y.1 = some .free)) &&
  scope.names.all (fun y => !(decide (y.2 = .local) || decide (y.2 = .cell)) || ((ownOf z.N own).map (·.1)).contains y.1 || !z.N.contains y.1)
mutual
def cG (z : Cz) : Expr → Tg → Bool
  | .Name x _, .nm i => decide (z.N[i]? = some x) && locB z x
  | .Tuple es _ _, .tp ts => z.calm && cGs z es ts
  | _, _ => false
def cGs (z : Cz) : List Expr → List Tg → Bool
  | [], [] => true
  | e :: es, t :: ts => notStar e && cG z e t && cGs z es ts
  | _, _ => false
end
/-- what is walked; r: the check of a value -/
def cI (r : Expr → Ex → Bool) (z : Cz) (iter : Expr) : ItK → List Ex → Bool
  | .seq, [t] => r iter t
  | .range1, [t] => (match iter with
    | .Call (.Name x _) [a] [] _ => decide (x = "range") && glB z x && notStar a && r a t
    | _ => false)
  | .range2, [t, u] => (match iter with
    | .Call (.Name x _) [a, b] [] _ => decide (x = "range") && glB z x && notStar a && notStar b && r a t && r b u
    | _ => false)
  | _, _ => false
def notSet : Expr → Bool
  | .Set _ _ _ => false
  | _ => true
/-- a test of and, or -/
def cW (r : Expr → Ex → Bool) (op : BoolOp) : List Expr → Ex → Bool
  | [a], t => r a t
  | a :: b :: l, t => (match op, t with
    | .And, .tAnd ta tb => r a ta && cW r op (b :: l) tb
    | .Or, .tOr ta tb => r a ta && cW r op (b :: l) tb
    | _, _ => false)
  | [], _ => false
def subEx (r : Cz → Expr → Ex → Bool) (rT : Cz → Expr → Ex → Bool) (z : Cz) (own : List Nat) (e : Expr) (k : ItK) (src : List Ex) (tg : Tg) (ifs : List Ex) (elt : Ex) : Bool := match e with
  | .ListComp x [⟨tge, iter, fs, 0⟩] scope _ => z.calm && blkOk z scope own && cI (r z) z iter k src && notSet iter && cG (z.blk scope.names) tge tg && (tgI tg).all (fun i => own.contains i) &&
    (match fs, ifs with
    | [], [] => true
    | [f], [t] => rT (z.blk scope.names) f t
    | _, _ => false) && r (z.blk scope.names) x elt
  | _ => false
def fnOkB (z : Cz) (m : Bool) (x : Str) (f n : Nat) (ks : List Str) (ar : List (Sum Nat D)) : Bool := match z.fns.lookup x with
  | some (g, fr, sh) => decide (g = f) && (fr || !m) && sh.any fun q => decide (q.1 = n) && decide (q.2.1 = ks) && arEq q.2.2 ar
  | none => false
mutual
/-- the text's expression is the small one -/
def cE : Nat → Cz → Bool → Expr → Ex → Bool
  | 0, _, _, _, _ => false
  | n + 1, z, m, e, t => match t with
    | .con d => conOk z e d && (!m || isCst e)
    | .var i => !m && slotOk z e i
    | .mov i => m && slotOk z e i
    | .op o ts => opOk (cO n z) z m e o ts
    | .tup ts => !m && (match e with
      | .Tuple es _ _ => cA (cE n z false) es ts
      | _ => false)
    | .lst ts => (match e with
      | .List es _ => cA (cE n z false) es ts
      | _ => false)
    | .dct ks vs => (match e, ks, vs with
      | .Dict [] [] _, [], [] => true
      | .Dict [some k] [v] _, [tk], [tv] => cE n z false k tk && cE n z false v tv
      | _, _, _ => false)
    | .andV a b => !m && (match e with
      | .BoolOp .And (x :: y :: []) _ => cE n z false x a && cE n z false y b
      | .BoolOp .And (x :: y :: w :: l) p => cE n z false x a && cE n z false (.BoolOp .And (y :: w :: l) p) b
      | _ => false)
    | .orV a b => !m && (match e with
      | .BoolOp .Or (x :: y :: []) _ => cE n z false x a && cE n z false y b
      | .BoolOp .Or (x :: y :: w :: l) p => cE n z false x a && cE n z false (.BoolOp .Or (y :: w :: l) p) b
      | _ => false)
    | .notV a => !m && (match e with
      | .UnaryOp .Not x _ => cE n z false x a
      | _ => false)
    | .ite c a b => (match e with
      | .IfExp x y w _ => cT n z x c && cE n z m y a && cE n z m w b
      | _ => false)
    | .chn p q a b c => !m && (match e with
      | .Compare x [o1, o2] [y, w] _ => cmpOk o1 p && cmpOk o2 q && cE n z false x a && cE n z false y b && cE n z false w c && !lastMarks [o1, o2] [y, w]
      | _ => false)
    | .call f ts ar => z.calm && (match e with
      | .Call (.Name x _) es kws _ => glB z x && fnOkB z m x f es.length (kws.filterMap (·.arg)) ar &&
        arOk ts.length ar && kws.all (·.arg.isSome) && cA (cE n z false) es (ts.take es.length) && cK (cE n z false) kws (ts.drop es.length)
      | _ => false)
    | .cel a => !m && cE n z true e a
    | .pop i a => !m && (match e with
      | .Call (.Attribute o x apos) [y] [] pos => decide (x = "pop") && slotOk z o i && notStar y && cE n z false y a && (apos.endLine == pos.line)
      | _ => false)
    | .xfl i f => !m && (match e with
      | .Attribute o x _ => decide (x = f) && slotOk z o i
      | _ => false)
    | .xis i k => !m && (match e with
      | .Call (.Name y _) [o, .Name x _] [] _ => decide (y = "isinstance") && glB z y && slotOk z o i && decide (x = clsN k) && glB z x && z.xn.contains k
      | _ => false)
    | .lc k src tg ifs elt own => subEx (fun z e t => cE n z false e t) (cT n) z own e k src tg ifs elt
    | _ => false
def cO : Nat → Cz → Expr → Ex → Bool
  | 0, _, _, _ => false
  | n + 1, z, e, t => match t with
    | .brw i => slotOk z e i
    | t => cE n z false e t
def cT : Nat → Cz → Expr → Ex → Bool
  | 0, _, _, _ => false
  | n + 1, z, e, t => match e with
    | .BoolOp op es _ => cW (cT n z) op es t
    | .UnaryOp .Not x _ => (match t with
      | .tNot a => cT n z x a
      | _ => false)
    | .Compare a [op] [b] _ => (match t with
      | .tb (.op o [ta, tb]) => cmpOk op o && cO n z a ta && cO n z b tb && !behindInMarks op b
      | .tb (.op o [ta]) => cO n z a ta && (match b with
        | .Constant .none _ _ => (decide (op = .Is) && decide (o = .isN)) || (decide (op = .IsNot) && decide (o = .isNotN))
        | .Constant (.bool k) _ _ => (decide (op = .Is) && decide (o = if k then .isT else .isF)) || (decide (op = .IsNot) && decide (o = if k then .isNT else .isNF))
        | _ => false)
      | _ => false)
    | .Compare x [o1, o2] [y, w] _ => (match t with
      | .tb (.chn p q a b c) => cmpOk o1 p && cmpOk o2 q && cE n z false x a && cE n z false y b && cE n z false w c && !lastMarks [o1, o2] [y, w]
      | _ => false)
    | e => (match t with
      | .tru a => plainT e && cE n z false e a
      | _ => false)
end
end Mp
namespace Mp
open PySem PySem.Spec L2

/-- the context is as the check has it -/
structure CxOk (X : Cx) (ER : ExT) (Wx : WX) (C : Calls) (z : Cz) : Prop where
  nd : X.N.Nodup
  hN : X.N = z.N
  calm : z.calm = true → X.calm = true
  kd : X.env.scope.kind = .function
  sc : X.env.scope.names = z.sc
  fn : match z.fl with
    | none => ∀ x, X.fn x = true
    | some l => ∀ x ∈ l, X.fn x = true
  un : X.A.units + 65 < cLine
  blt : ∀ x ∈ bltNames, X.mg x = none
  glo : ∀ p ∈ z.glo, ∃ v, conV p.2 = some v ∧ ∃ u, X.mg p.1 = some u ∧ RelV v u
  rm : z.calm = true → ∃ k, Room k X.A
  fns : z.calm = true → ∀ x f fr sh, z.fns.lookup x = some (f, fr, sh) → ∃ (k : Nat) (fx : Addr) (fd : FuncData) (ps : List Str), FnOk X.prog X.w X.K X.mg X.base (L2.CX X.prog X.w) k fx fd ps (spF ⟨X.K, none⟩ ER C fr f ps.length) ∧ Room k X.A ∧ X.mg x = some (.ref fx) ∧ PySem.W.keepIn X.K (.ref fx) = true ∧
    ∀ q ∈ sh, Shp X.K fd ps q.1 q.2.1 q.2.2 ∧ q.2.2.length = ps.length
  tk : Takes X Wx
  er : ER = ERx ⟨X.K, none⟩
  kit : KitB X.K = true
  ekit : ErrKit X.K X.prog.main.file = true
  htop : (X.prog.main.scope.names.lookup ("super" : Str)).isSome = false
  kn : ∀ c ∈ z.kn, isKnown X.K c = true ∧ X.mg (clsN c) = some (.ref (He.ga X.K (clsN c)))
  xn : ∀ c ∈ z.xn, isKnownX X.K c = true ∧ X.mg (clsN c) = some (.ref (He.ga X.K (clsN c)))

section
variable {X : Cx} {ER : ExT} {Wx : WX} {C : Calls} {z : Cz} {m : Bool}
theorem odd_inv {x : Str} (h : oddName x = false) : (x == ("__debug__" : Str)) = false ∧ (x == ("__classdict__" : Str)) = false ∧ x ≠ "__name__" := by
  unfold oddName at h
  simp only [Bool.or_eq_false_iff, decide_eq_false_iff_not] at h
  exact ⟨h.1.1, h.1.2, h.2⟩
theorem CxOk.vis (ok : CxOk X ER Wx C z) {x : Str} (h : visB z x = true) : Vis X.env.scope x := by
  unfold visB at h
  unfold Vis
  rw [ok.sc]
  split at h
  · rename_i e; exact .inl e
  · rename_i e; exact .inr (.inl e)
  · rename_i e; exact .inr (.inr e)
  · cases h
theorem CxOk.gl (ok : CxOk X ER Wx C z) {x : Str} (h : glB z x = true) : Gl X x ∧ oddName x = false := by
  unfold glB at h
  have h' : z.sc.lookup x = some .globalImplicit ∧ oddName x = false := by simpa using h
  refine ⟨?_, h'.2⟩
  show X.env.scope.names.lookup x = _
  rw [ok.sc]
  exact h'.1
theorem slot_inv {e : Expr} {i : Nat} (ok : CxOk X ER Wx C z) (h : slotOk z e i = true) : ∃ x p, e = .Name x p ∧ X.N[i]? = some x ∧ Vis X.env.scope x ∧ (x == ("__debug__" : Str)) = false ∧ (x == ("__classdict__" : Str)) = false := by
  unfold slotOk at h
  split at h
  · rename_i x p
    have h' : (z.N[i]? = some x ∧ visB z x = true) ∧ oddName x = false := by simpa using h
    obtain ⟨o1, o2, _⟩ := odd_inv h'.2
    exact ⟨x, p, rfl, by rw [ok.hN]; exact h'.1.1, ok.vis h'.1.2, o1, o2⟩
  · cases h
theorem con_ok {e : Expr} {d : D} (ok : CxOk X ER Wx C z) (h : conOk z e d = true) (hm : m = false ∨ isCst e = true) : SE X ER Wx C e (.con d) m := by
  unfold conOk at h
  split at h
  · rw [(conEq_eq h).1]; exact se_int
  · rw [(conEq_eq h).1]; exact se_bl
  · rw [(conEq_eq h).1]; exact se_non
  · rw [(conEq_eq h).1]; exact se_str
  · rename_i x p
    obtain rfl : m = false := hm.elim id (fun z => by cases z)
    simp only [Bool.and_eq_true] at h
    obtain ⟨hg, ho⟩ := ok.gl h.1
    obtain ⟨q, hq, h2⟩ := List.any_eq_true.mp h.2
    have h3 : q.1 = x ∧ conEq q.2 d = true := by simpa using h2
    obtain ⟨v, e1, u, e2, r⟩ := ok.glo q hq
    obtain ⟨e3, _⟩ := conEq_eq h3.2
    rw [e3] at e1
    rw [h3.1] at e2
    exact se_glo hg e2 r (fun _ _ _ => Rep.con e1) (odd_inv ho).1
  · cases h
theorem bin_ok {op : Operator} {o : Op} (h : binO op = some o) : ∃ r, OpR X (binaryOp op) r ∧ ∀ {s H Q x y}, OpPost (kz X) s o false [x, y] H Q → r x y H Q := by
  cases op <;> first | (cases h; done) | skip
  · cases h; exact ⟨_, op_add.or (op_add_str.or (op_cat.or op_catA)), fun h => post_add h rfl⟩
  · cases h; exact ⟨_, op_sub, fun h => post_i0 (o := .sub) (f := fun i j => .int (i - j)) (fun _ _ w => w) (fun _ _ _ _ _ => rfl) h⟩
  · cases h; exact ⟨_, op_mul.or (op_rep.or op_mulS), fun h => post_mul h⟩
  · cases h; exact ⟨_, op_mod, fun h => post_i2 (o := .mod) (P := fun _ j => 0 < j) (f := fun i j => .int (i % j)) (fun _ _ w => w) (fun _ _ _ _ _ => rfl) h⟩
  · cases h; exact ⟨_, op_pow, fun h => post_i2 (o := .pow) (P := CPow) (f := fun i j => .int (i ^ j.toNat)) (fun _ _ w => w) (fun _ _ _ _ _ => rfl) h⟩
  · cases h; exact ⟨_, op_fdivW, fun h => post_i2 (o := .fdiv) (P := CDivW) (f := fun i j => .int (i / j)) (fun _ _ w => w) (fun _ _ _ _ _ => rfl) h⟩
theorem cmp_ok0 {op : CmpOp} {o : Op} (ok : CxOk X ER Wx C z) (h : cmpO op = some o) : ∃ r, OpR X (compareOp op) r ∧ ∀ {s H Q x y}, OpPost (kz X) s o false [x, y] H Q → r x y H Q := by
  have hu : X.A.units + 64 < cLine := by have := ok.un; omega
  cases op <;> first | (cases h; done) | skip
  · cases h; exact ⟨_, op_eq.or (op_eqD hu), fun h => post_eq h⟩
  · cases h; exact ⟨_, op_ne.or (op_neD hu), fun h => post_ne h⟩
  · cases h; exact ⟨_, op_lt, fun h => post_i0 (o := .lt) (f := fun i j => .bl (decide (i < j))) (fun _ _ w => w) (fun _ _ _ _ _ => rfl) h⟩
  · cases h; exact ⟨_, op_le, fun h => post_i0 (o := .le) (f := fun i j => .bl (decide (i ≤ j))) (fun _ _ w => w) (fun _ _ _ _ _ => rfl) h⟩
  · cases h; exact ⟨_, op_gt, fun h => post_i0 (o := .gt) (f := fun i j => .bl (decide (j < i))) (fun _ _ w => w) (fun _ _ _ _ _ => rfl) h⟩
  · cases h; exact ⟨_, op_ge, fun h => post_i0 (o := .ge) (f := fun i j => .bl (decide (j ≤ i))) (fun _ _ w => w) (fun _ _ _ _ _ => rfl) h⟩
  · cases h; exact ⟨_, (op_inD ok.un).or ((op_inTD ok.un).or op_in_str), fun h => post_in h⟩
  · cases h; exact ⟨_, (op_notInD ok.un).or ((op_notInTD ok.un).or op_notIn_str), fun h => post_notIn h⟩
theorem cmp_ok {op : CmpOp} {o : Op} (ok : CxOk X ER Wx C z) (h : cmpOk op o = true) : ∃ r, OpR X (compareOp op) r ∧ ∀ {s H Q x y}, OpPost (kz X) s o false [x, y] H Q → r x y H Q := by
  unfold cmpOk at h
  simp only [Bool.or_eq_true, Bool.and_eq_true, decide_eq_true_eq] at h
  rcases h with (h | ⟨rfl, rfl⟩) | ⟨rfl, rfl⟩
  · exact cmp_ok0 ok h
  · exact ⟨_, op_eqL ok.un, fun h => post_eqLW (neg := false) (fun _ _ => rfl) h⟩
  · exact ⟨_, op_neL ok.un, fun h => post_eqLW (neg := true) (fun _ _ => rfl) h⟩
theorem not_star_slot {e : Expr} {x : Str} {p : Pos} (h : e = .Name x p) : notStar e = true := by subst h; rfl
theorem plainIx_of {b : Expr} (h : notSlice b = true) : PlainIx b := by
  intro o i
  cases b <;> first | rfl | cases h
/-- a list of operands -/
theorem sa_ok {r : Expr → Ex → Bool} (hr : ∀ e t, r e t = true → SO X ER Wx C e t) : ∀ {es : List Expr} {ts : List Ex}, cA r es ts = true → SA X ER Wx C es ts ∧ es.all notStar = true ∧ ts.length = es.length
  | [], [], _ => ⟨sa_nil, rfl, rfl⟩
  | e :: es, t :: ts, h => by
    have h' : (notStar e = true ∧ r e t = true) ∧ cA r es ts = true := by simpa only [cA, Bool.and_eq_true] using h
    obtain ⟨a, b, c⟩ := sa_ok hr h'.2
    exact ⟨sa_cons (hr _ _ h'.1.2) a h'.1.1, by simp only [List.all_cons, h'.1.1, b, Bool.and_self], congrArg Nat.succ c⟩
theorem sl_ok {r : Expr → Ex → Bool} (hr : ∀ e t, r e t = true → SE X ER Wx C e t false) : ∀ {es : List Expr} {ts : List Ex}, cA r es ts = true → SL X ER Wx C es ts ∧ es.all notStar = true ∧ ts.length = es.length
  | [], [], _ => ⟨sl_nil, rfl, rfl⟩
  | e :: es, t :: ts, h => by
    have h' : (notStar e = true ∧ r e t = true) ∧ cA r es ts = true := by simpa only [cA, Bool.and_eq_true] using h
    obtain ⟨a, b, c⟩ := sl_ok hr h'.2
    exact ⟨sl_cons (hr _ _ h'.1.2) a h'.1.1, by simp only [List.all_cons, h'.1.1, b, Bool.and_self], congrArg Nat.succ c⟩
theorem sk_ok {r : Expr → Ex → Bool} (hr : ∀ e t, r e t = true → SE X ER Wx C e t false) : ∀ {es : List Keyword} {ts : List Ex}, cK r es ts = true → SK X ER Wx C es ts ∧ ts.length = es.length
  | [], [], _ => ⟨sk_nil, rfl⟩
  | ⟨nm, e, p⟩ :: es, t :: ts, h => by
    have h' : r e t = true ∧ cK r es ts = true := by simpa only [cK, Bool.and_eq_true] using h
    obtain ⟨a, c⟩ := sk_ok hr h'.2
    exact ⟨sk_cons (hr _ _ h'.1) a, congrArg Nat.succ c⟩
theorem blt_ok {x : Str} {n : Nat} {o : Op} {e : Expr} {es : List Expr} {ts : List Ex} {p pos : Pos} (ok : CxOk X ER Wx C z) (hg : Gl X x) (ho : oddName x = false) (hb : x ∈ bltNames) (h : bltO x n = some o) (hm : m = false ∨ o = .toList) (hca : z.calm = true ∨ needCalm o = false) (ha : SA X ER Wx C (e :: es) ts) (hs : (e :: es).all notStar = true) :
    SE X ER Wx C (.Call (.Name x p) (e :: es) [] pos) (.op o ts) m := by
  obtain ⟨o1, o2, o3⟩ := odd_inv ho
  have hmg := ok.blt x hb
  have hc : needCalm o = true → X.calm = true := fun q => ok.calm (hca.elim id fun z => by rw [q] at z; cases z)
  unfold bltO at h
  by_cases q : x = "len"
  · rw [if_pos q] at h; cases h; subst q; obtain rfl : m = false := hm.elim id (fun z => by cases z)
    exact se_callB call_len (fun h => post_len h) hg hmg (by decide +kernel) ha hs o3 o1
  rw [if_neg q] at h; clear q
  by_cases q : x = "abs"
  · rw [if_pos q] at h; cases h; subst q; obtain rfl : m = false := hm.elim id (fun z => by cases z)
    exact se_callB call_abs (fun h => post_abs h) hg hmg (by decide +kernel) ha hs o3 o1
  rw [if_neg q] at h; clear q
  by_cases q : x = "max" ∧ n = 2
  · rw [if_pos q] at h; cases h; obtain ⟨q, _⟩ := q; subst q; obtain rfl : m = false := hm.elim id (fun z => by cases z)
    exact se_callB (call_max2 (hc rfl)) (fun h => post_max2 h) hg hmg (by decide +kernel) ha hs o3 o1
  rw [if_neg q] at h; clear q
  by_cases q : x = "min" ∧ n = 2
  · rw [if_pos q] at h; cases h; obtain ⟨q, _⟩ := q; subst q; obtain rfl : m = false := hm.elim id (fun z => by cases z)
    exact se_callB (call_min2 (hc rfl)) (fun h => post_min2 h) hg hmg (by decide +kernel) ha hs o3 o1
  rw [if_neg q] at h; clear q
  by_cases q : x = "int"
  · rw [if_pos q] at h; cases h; subst q; obtain rfl : m = false := hm.elim id (fun z => by cases z)
    exact se_callTy call_int1 (fun h => post_toInt h) hg hmg (by decide +kernel) ha hs o3 o1
  rw [if_neg q] at h; clear q
  by_cases q : x = "str"
  · rw [if_pos q] at h; cases h; subst q; obtain rfl : m = false := hm.elim id (fun z => by cases z)
    exact se_callTy call_str_int (fun h => post_toStr h) hg hmg (by decide +kernel) ha hs o3 o1
  rw [if_neg q] at h; clear q
  by_cases q : x = "repr"
  · rw [if_pos q] at h; cases h; subst q; obtain rfl : m = false := hm.elim id (fun z => by cases z)
    exact se_callB call_repr_b (fun h => post_repr h) hg hmg (by decide +kernel) ha hs o3 o1
  rw [if_neg q] at h; clear q
  by_cases q : x = "list"
  · rw [if_pos q] at h; cases h; subst q
    exact se_callTy (callR_or call_list_of (call_list_strR (hc rfl))) (fun h => post_toList h) hg hmg (by decide +kernel) ha hs o3 o1
  rw [if_neg q] at h; clear q
  by_cases q : x = "tuple"
  · rw [if_pos q] at h; cases h; subst q; obtain rfl : m = false := hm.elim id (fun z => by cases z)
    exact se_callTy call_tuple_of (fun h => post_toTuple h) hg hmg (by decide +kernel) ha hs o3 o1
  rw [if_neg q] at h; clear q
  by_cases q : x = "all"
  · rw [if_pos q] at h; cases h; subst q; obtain rfl : m = false := hm.elim id (fun z => by cases z)
    exact se_callB (cr_all (hc rfl)) (fun h => post_all h) hg hmg (by decide +kernel) ha hs o3 o1
  rw [if_neg q] at h; clear q
  by_cases q : x = "any"
  · rw [if_pos q] at h; cases h; subst q; obtain rfl : m = false := hm.elim id (fun z => by cases z)
    exact se_callB (cr_any (hc rfl)) (fun h => post_any h) hg hmg (by decide +kernel) ha hs o3 o1
  rw [if_neg q] at h; clear q
  by_cases q : x = "sum"
  · rw [if_pos q] at h; cases h; subst q; obtain rfl : m = false := hm.elim id (fun z => by cases z)
    exact se_callB (cr_sum (hc rfl)) (fun h => post_sum h) hg hmg (by decide +kernel) ha hs o3 o1
  rw [if_neg q] at h; clear q
  by_cases q : x = "max"
  · rw [if_pos q] at h; cases h; subst q; obtain rfl : m = false := hm.elim id (fun z => by cases z)
    exact se_callB (cr_max (hc rfl)) (fun h => post_maxL h) hg hmg (by decide +kernel) ha hs o3 o1
  rw [if_neg q] at h; clear q
  by_cases q : x = "min"
  · rw [if_pos q] at h; cases h; subst q; obtain rfl : m = false := hm.elim id (fun z => by cases z)
    exact se_callB (cr_min (hc rfl)) (fun h => post_minL h) hg hmg (by decide +kernel) ha hs o3 o1
  rw [if_neg q] at h; clear q
  cases h
theorem isNone_inv {e : Expr} (h : isNone e = true) : ∃ j p, e = .Constant .none j p := by
  unfold isNone at h
  split at h
  · exact ⟨_, _, rfl⟩
  · cases h
theorem tyE_ok {e : Expr} {t : Ty} (ok : CxOk X ER Wx C z) (h : tyE z e t = true) : PE X e (tC (tyV' (kz X) t)) ∧ notStar e = true ∧ tyKn (kz X) t = true := by
  unfold tyE at h
  split at h
  · rename_i y p c
    simp only [Bool.and_eq_true, decide_eq_true_eq, List.contains_iff_mem] at h
    obtain ⟨⟨h1, rfl⟩, h3⟩ := h
    obtain ⟨hg, ho⟩ := ok.gl h3
    obtain ⟨d1, d2, d3⟩ := odd_inv ho
    obtain ⟨k1, k2⟩ := ok.kn c h1
    exact ⟨pe_cls (t := .own c) rfl hg d3 d1 k2, rfl, k1⟩
  · rename_i y p hn
    simp only [Bool.and_eq_true, decide_eq_true_eq, List.contains_iff_mem] at h
    obtain ⟨⟨rfl, h2⟩, h3⟩ := h
    obtain ⟨hg, ho⟩ := ok.gl h2
    obtain ⟨d1, d2, d3⟩ := odd_inv ho
    have hm := ok.blt _ h3
    cases t with
    | own c => exact absurd rfl (hn c)
    | int => exact ⟨pe_cls (t := .int) rfl hg d3 d1 hm, rfl, rfl⟩
    | bool => exact ⟨pe_cls (t := .bool) rfl hg d3 d1 hm, rfl, rfl⟩
    | str => exact ⟨pe_cls (t := .str) rfl hg d3 d1 hm, rfl, rfl⟩
    | list => exact ⟨pe_cls (t := .list) rfl hg d3 d1 hm, rfl, rfl⟩
    | tuple => exact ⟨pe_cls (t := .tuple) rfl hg d3 d1 hm, rfl, rfl⟩
    | dict => exact ⟨pe_cls (t := .dict) rfl hg d3 d1 hm, rfl, rfl⟩
  · cases h
theorem tyEs_ok (ok : CxOk X ER Wx C z) : ∀ {es : List Expr} {ts : List Ty}, tyEs z es ts = true → Paired (fun c t => PE X c (tC (tyV' (kz X) t)) ∧ notStar c = true) es ts ∧ ∀ t ∈ ts, tyKn (kz X) t = true
  | [], [], _ => ⟨.nil, fun _ h => by cases h⟩
  | e :: es, t :: ts, h => by
    have h' : tyE z e t = true ∧ tyEs z es ts = true := by simpa only [tyEs, Bool.and_eq_true] using h
    obtain ⟨a, b, c⟩ := tyE_ok ok h'.1
    obtain ⟨d, f⟩ := tyEs_ok ok h'.2
    exact ⟨.cons ⟨a, b⟩ d, fun u hu => by
      rcases List.mem_cons.mp hu with q | q
      · rw [q]; exact c
      · exact f u q⟩
theorem strC_inv {e : Expr} {x : Str} (h : isStrC e = some x) : ∃ j p, e = .Constant (.str x) j p := by
  unfold isStrC at h
  split at h
  · cases h; exact ⟨_, _, rfl⟩
  · cases h
theorem conS_inv {t : Ex} {x : Str} (h : conS t = some x) : t = .con (.str x) := by
  unfold conS at h
  split at h
  · cases h; rfl
  · cases h
theorem mtC_ok {name z1 : Str} {j : Nat} {o : Op} {e : Expr} {te : Ex} {p apos pos : Pos} (h : mtCO name = some o) (he : SO X ER Wx C e te) (hs : notStar e = true) (hl : (apos.endLine == pos.line) = true) : SE X ER Wx C (.Call (.Attribute (.Constant (.str z1) j p) name apos) [e] [] pos) (.op o [.con (.str z1), te]) false := by
  unfold mtCO at h
  split at h
  · rename_i q; cases h; subst q
    exact se_mtC PySem.F.slot_str_join PySem.F.type_str_join mt_join (fun h => post_join h) he hs hl
  split at h
  · rename_i q; cases h; subst q
    exact se_mtC PySem.F.slot_str_find PySem.F.type_str_find mt_find (fun h => post_find h) he hs hl
  split at h
  · rename_i q; cases h; subst q
    exact se_mtC PySem.F.slot_str_startswith PySem.F.type_str_startswith mt_startswith (fun h => post_starts h) he hs hl
  · cases h
theorem mtA_ok {name z1 : Str} {j : Nat} {o : Op} {e : Expr} {te : Ex} {p apos pos : Pos} (h : mtAO name = some o) (hm : m = false ∨ o = .split) (he : SO X ER Wx C e te) (hb : baseOk e = true) (hl : (apos.endLine == pos.line) = true) : SE X ER Wx C (.Call (.Attribute e name apos) [.Constant (.str z1) j p] [] pos) (.op o [te, .con (.str z1)]) m := by
  unfold mtAO at h
  split at h
  · rename_i q; cases h; subst q
    exact se_mtA PySem.F.slot_str_split PySem.F.type_str_split mt_split (fun h => post_split h) (fun ⟨a, _, e, _⟩ => ⟨a, e⟩) he hb hl
  split at h
  · rename_i q; cases h; subst q; obtain rfl : m = false := hm.elim id (fun z => by cases z)
    exact se_mtA PySem.F.slot_str_removeprefix PySem.F.type_str_removeprefix mt_removeprefix (fun h => post_rmpre h) (fun ⟨a, _, e, _⟩ => ⟨a, e⟩) he hb hl
  split at h
  · rename_i q; cases h; subst q; obtain rfl : m = false := hm.elim id (fun z => by cases z)
    exact se_mtA PySem.F.slot_str_startswith PySem.F.type_str_startswith mt_startswith (fun h => post_starts h) (fun ⟨a, _, e, _⟩ => ⟨a, e⟩) he hb hl
  split at h
  · rename_i q; cases h; subst q; obtain rfl : m = false := hm.elim id (fun z => by cases z)
    exact se_mtA PySem.F.slot_str_find PySem.F.type_str_find mt_find (fun h => post_find h) (fun ⟨a, _, e, _⟩ => ⟨a, e⟩) he hb hl
  · cases h
/-- operations -/
theorem op_ok {r : Expr → Ex → Bool} {e : Expr} {o : Op} {ts : List Ex} (ok : CxOk X ER Wx C z) (hr : ∀ e t, r e t = true → SO X ER Wx C e t) (h : opOk r z m e o ts = true) : SE X ER Wx C e (.op o ts) m := by
  unfold opOk at h
  split at h
  · rename_i a op b p
    simp only [Bool.and_eq_true, Bool.not_eq_true', decide_eq_true_eq] at h
    obtain ⟨⟨rfl, hb⟩, h⟩ := h
    split at h
    · simp only [Bool.and_eq_true] at h
      obtain ⟨rr, h1, h2⟩ := bin_ok (X := X) hb
      exact se_bin h1 h2 (hr _ _ h.1) (hr _ _ h.2)
    · cases h
  · rename_i a p
    simp only [Bool.and_eq_true, Bool.not_eq_true', decide_eq_true_eq] at h
    obtain ⟨⟨rfl, rfl⟩, h⟩ := h
    split at h
    · exact se_un un_neg (fun h => post_neg h) (hr _ _ h)
    · cases h
  · rename_i a op b p
    simp only [Bool.and_eq_true, Bool.not_eq_true'] at h
    obtain ⟨rfl, h⟩ := h
    split at h
    · simp only [Bool.and_eq_true, Bool.not_eq_true'] at h
      obtain ⟨⟨⟨hb, ha⟩, hb2⟩, hm⟩ := h
      obtain ⟨rr, h1, h2⟩ := cmp_ok ok hb
      exact se_cmp h1 h2 (hr _ _ ha) (hr _ _ hb2) hm
    · simp only [Bool.and_eq_true] at h
      obtain ⟨ha, h⟩ := h
      split at h
      · simp only [Bool.and_eq_true, Bool.or_eq_true, decide_eq_true_eq] at h
        rcases h with ⟨rfl, rfl⟩ | ⟨rfl, rfl⟩
        · exact se_isN (hr _ _ ha)
        · exact se_isNotN (hr _ _ ha)
      · simp only [Bool.and_eq_true, Bool.or_eq_true, decide_eq_true_eq] at h
        rcases h with ⟨rfl, rfl⟩ | ⟨rfl, rfl⟩
        · exact se_isB (hr _ _ ha)
        · exact se_isNB (hr _ _ ha)
      · cases h
    · cases h
  · rename_i a lo hi p p2
    simp only [Bool.and_eq_true, Bool.not_eq_true', decide_eq_true_eq] at h
    obtain ⟨⟨rfl, rfl⟩, h⟩ := h
    split at h
    · exact se_sl0 (hr _ _ h)
    · simp only [Bool.and_eq_true] at h
      exact se_sl1 (hr _ _ h.1) (hr _ _ h.2)
    · simp only [Bool.and_eq_true] at h
      exact se_sl2 (hr _ _ h.1) (hr _ _ h.2)
    · cases h
  · rename_i a b p _
    simp only [Bool.and_eq_true, Bool.not_eq_true', decide_eq_true_eq] at h
    obtain ⟨⟨⟨rfl, rfl⟩, hs⟩, h⟩ := h
    split at h
    · simp only [Bool.and_eq_true] at h
      exact peImp (pe_ix ix_seq (hr _ _ h.1) (hr _ _ h.2) (plainIx_of hs)) fun s H Q h => rdO_mono (rdE_op2 h) fun x H1 h1 => rdO_mono h1 fun y H2 h2 => post_item h2
    · cases h
  · rename_i a f p
    simp only [Bool.and_eq_true, Bool.not_eq_true', decide_eq_true_eq] at h
    obtain ⟨⟨⟨rfl, rfl⟩, hb⟩, h⟩ := h
    split at h
    · exact se_fld ok.kit (hr _ _ h) (base_of hb _ _ _)
    · cases h
  · rename_i a name apos x pos
    simp only [Bool.and_eq_true] at h
    obtain ⟨hl, h⟩ := h
    split at h
    · split at h
      · rename_i z1 z2 e1 e2
        simp only [Bool.and_eq_true, Bool.or_eq_true, decide_eq_true_eq, Bool.not_eq_true'] at h
        obtain ⟨⟨⟨⟨rfl, hs⟩, hx⟩, rfl⟩, h⟩ := h
        obtain ⟨j, p, rfl⟩ := strC_inv e1
        obtain rfl := conS_inv e2
        rcases h with h | ⟨⟨rfl, rfl⟩, hc⟩
        · exact mtC_ok h (hr _ _ hx) hs hl
        · exact se_index (ok.calm hc) ok.tk (hr _ _ hx) hs hl
      · split at h
        · rename_i z1 z2 e1 e2
          simp only [Bool.and_eq_true, Bool.or_eq_true, decide_eq_true_eq, Bool.not_eq_true'] at h
          obtain ⟨⟨⟨⟨rfl, hb⟩, ha⟩, ho⟩, hm⟩ := h
          obtain ⟨j, p, rfl⟩ := strC_inv e1
          obtain rfl := conS_inv e2
          exact mtA_ok ho hm (hr _ _ ha) hb hl
        · cases h
    · cases h
  · rename_i x p a as p2
    simp only [Bool.and_eq_true, Bool.or_eq_true, Bool.not_eq_true', decide_eq_true_eq] at h
    obtain ⟨⟨hg, hb⟩, h⟩ := h
    obtain ⟨hg, ho⟩ := ok.gl hg
    have hb : x ∈ bltNames := by simpa using hb
    rcases h with (⟨⟨⟨hbl, hm⟩, hca⟩, ha⟩ | ⟨⟨⟨rfl, rfl⟩, hst⟩, h⟩) | ⟨⟨rfl, hc⟩, h⟩
    · obtain ⟨sa, hs, _⟩ := sa_ok hr ha
      exact blt_ok ok hg ho hb hbl hm hca sa hs
    · split at h
      · simp only [Bool.and_eq_true] at h
        obtain ⟨pc, ns, kn⟩ := tyE_ok ok h.2
        exact se_isi1 ok.kit kn hg (ok.blt _ hb) pc ns (hr _ _ h.1) hst
      · simp only [Bool.and_eq_true, decide_eq_true_eq] at h
        obtain ⟨⟨ha, hts⟩, hlen⟩ := h
        obtain ⟨pc, kn⟩ := tyEs_ok ok hts
        exact se_isiT ok.kit kn hg (ok.blt _ hb) pc hlen (hr _ _ ha) hst
      · cases h
    · split at h
      · simp only [Bool.and_eq_true, decide_eq_true_eq] at h
        obtain ⟨⟨⟨rfl, hg2⟩, hs⟩, hb2⟩ := h
        exact se_rng1 (ok.calm hc) hg (ok.blt _ hb) (ok.gl hg2).1 (ok.blt _ (by decide)) (hr _ _ hb2) hs
      · simp only [Bool.and_eq_true, decide_eq_true_eq] at h
        obtain ⟨⟨⟨⟨⟨rfl, hg2⟩, hs⟩, hs2⟩, hb2⟩, hc2⟩ := h
        exact se_rng2 (ok.calm hc) hg (ok.blt _ hb) (ok.gl hg2).1 (ok.blt _ (by decide)) (hr _ _ hb2) hs (hr _ _ hc2) hs2
      · cases h
  · cases h
end
end Mp
namespace Mp
open PySem PySem.Spec L2

section
variable {X : Cx} {ER : ExT} {Wx : WX} {C : Calls} {z : Cz} {m : Bool}
theorem CxOk.loc (ok : CxOk X ER Wx C z) {x : Str} (h : locB z x = true) : L2.Loc X.env.scope x ∧ (X.fn x = true ∨ X.env.scope.names.lookup x = some .local) := by
  unfold locB at h
  unfold L2.Loc
  rw [ok.sc]
  split at h
  · rename_i e; exact ⟨.inl e, .inr e⟩
  · rename_i e
    refine ⟨.inr e, .inl ?_⟩
    have f := ok.fn
    split at h
    · rename_i q; rw [q] at f; exact f x
    · rename_i l q; rw [q] at f; exact f x (by simpa using h)
  · cases h
theorem each_of {e : Expr} (h : notStar e = true) (es : List Expr) (env : Env) : assignEach (e :: es) env = (false, assign e env) :: assignEach es env := by
  cases e <;> first | rfl | cases h
mutual
theorem cG_ok (ok : CxOk X ER Wx C z) : ∀ {e : Expr} {t : Tg}, cG z e t = true → SG X e t
  | .Name x p, .nm i, h => by
    have h' : z.N[i]? = some x ∧ locB z x = true := by simpa [cG] using h
    obtain ⟨l, f⟩ := ok.loc h'.2
    exact sg_nm ok.nd (by rw [ok.hN]; exact h'.1) l f
  | .Tuple es k p, .tp ts, h => by
    have h' : z.calm = true ∧ cGs z es ts = true := by simpa only [cG, Bool.and_eq_true] using h
    obtain ⟨a, b, c⟩ := cGs_ok ok h'.2
    exact sg_tp (ok.calm h'.1) a b c
theorem cGs_ok (ok : CxOk X ER Wx C z) : ∀ {es : List Expr} {ts : List Tg}, cGs z es ts = true → SGs X es ts ∧ (assignEach es X.env).length = ts.length ∧ (assignEach es X.env).findIdx? (·.1) = none
  | [], [], _ => ⟨sgs_nil, rfl, rfl⟩
  | e :: es, t :: ts, h => by
    have h' : (notStar e = true ∧ cG z e t = true) ∧ cGs z es ts = true := by simpa only [cGs, Bool.and_eq_true] using h
    obtain ⟨a, b, c⟩ := cGs_ok ok h'.2
    have q := each_of h'.1.1 es X.env
    refine ⟨sgs_cons (cG_ok ok h'.1.2) a (by rw [q]; rfl), by rw [q, List.length_cons, b, List.length_cons], ?_⟩
    rw [q, List.findIdx?_cons, c]
    rfl
end
theorem folded_of {e : Expr} (h : notSet e = true) (env : Env) (x : Value) : foldedSetIterable e env x = pure x := by
  cases e <;> first | rfl | cases h
theorem cI_ok {r : Expr → Ex → Bool} {tg iter : Expr} {k : ItK} {src : List Ex} (ok : CxOk X ER Wx C z) (hr : ∀ e t, r e t = true → SE X ER Wx C e t false) (h : cI r z iter k src = true) : SI X ER Wx C tg iter k src := by
  unfold cI at h
  split at h
  · exact si_seq (hr _ _ h)
  · split at h
    · rename_i x p a p2
      simp only [Bool.and_eq_true, decide_eq_true_eq] at h
      obtain ⟨⟨⟨rfl, hg⟩, hs⟩, ha⟩ := h
      exact si_range1 (ok.gl hg).1 (ok.blt _ (by decide)) (hr _ _ ha) hs
    · cases h
  · split at h
    · rename_i x p a b p2
      simp only [Bool.and_eq_true, decide_eq_true_eq] at h
      obtain ⟨⟨⟨⟨⟨rfl, hg⟩, hs⟩, hs2⟩, ha⟩, hb⟩ := h
      exact si_range2 (ok.gl hg).1 (ok.blt _ (by decide)) (hr _ _ ha) (hr _ _ hb) hs hs2
    · cases h
  · cases h
theorem own_get {N : List Str} {own : List Nat} {p : Str × Nat} (h : p ∈ ownOf N own) : N[p.2]? = some p.1 := by
  unfold ownOf at h
  obtain ⟨i, _, e⟩ := List.mem_filterMap.mp h
  cases q : N[i]? with
  | none => rw [q] at e; cases e
  | some x => rw [q] at e; cases e; exact q
theorem blk_inv {scope : Scope} {own : List Nat} (ok : CxOk X ER Wx C z) (h : blkOk z scope own = true) : BlkOk X.N X.env.scope scope (ownOf z.N own) ∧ (ownOf z.N own).map (·.2) = own ∧ scope.names.all (fun y => decide (scope.names.lookup y.1 = some y.2)) = true := by
  unfold blkOk at h
  simp only [Bool.and_eq_true, decide_eq_true_eq] at h
  obtain ⟨⟨⟨⟨h1, h2⟩, h3⟩, h4⟩, h5⟩ := h
  refine ⟨⟨h1, fun y hy => ?_, fun p hp => by rw [ok.hN]; exact own_get hp, fun y hy e => ?_, fun y hy e => ?_⟩, h3, h2⟩
  · simpa using List.all_eq_true.mp h2 y hy
  · have := List.all_eq_true.mp h4 y hy
    rw [ok.sc]
    simpa [e] using this
  · have := List.all_eq_true.mp h5 y hy
    rw [ok.hN]
    simp only [Bool.or_eq_true, Bool.not_eq_true', Bool.or_eq_false_iff, decide_eq_false_iff_not, List.contains_iff_mem] at this
    rcases this with (⟨n1, n2⟩ | z1) | z2
    · exact e.elim (fun z => absurd z n1) (fun z => absurd z n2)
    · exact .inl z1
    · refine .inr fun w => ?_
      have : z.N.contains y.1 = true := by simpa using w
      rw [this] at z2
      cases z2
theorem CxOk.blk (ok : CxOk X ER Wx C z) {scope : Scope} (hk : scope.kind = .function) (hu : scope.names.all (fun y => decide (scope.names.lookup y.1 = some y.2)) = true) (s : Shared) (H : Hp) (c : Addr) (cl : List (Str × Addr)) (fp : List Addr) :
    CxOk (X.blk s H scope (compEnvC scope cl c X.env) fp) ER W0 C (z.blk scope.names) where
  nd := ok.nd
  hN := ok.hN
  calm := ok.calm
  kd := hk
  sc := by
    show (relabel scope X.env).names = relN scope.names z.sc
    unfold relabel relN
    simp only [ok.kd, Env.kindOf, ok.sc, beq_self_eq_true, Bool.and_true]
  fn := by
    show ∀ x ∈ scope.names.filterMap (fun p => if p.2 = .cell then some p.1 else none), (scope.names.lookup x == some .cell) = true
    intro x hx
    obtain ⟨p, hp, e⟩ := List.mem_filterMap.mp hx
    split at e
    · rename_i q
      cases e
      have := List.all_eq_true.mp hu p hp
      have e2 : scope.names.lookup p.1 = some p.2 := by simpa using this
      rw [e2, q]
      rfl
    · cases e
  un := ok.un
  blt := ok.blt
  glo := ok.glo
  rm := ok.rm
  fns := ok.fns
  tk := takes0
  er := ok.er
  kit := ok.kit
  ekit := ok.ekit
  htop := ok.htop
  kn := ok.kn
  xn := ok.xn
theorem sw_ok {r : Expr → Ex → Bool} {op : BoolOp} {pos : Pos} (hr : ∀ e t, r e t = true → ST X ER Wx C e t) : ∀ {es : List Expr} {t : Ex}, cW r op es t = true → SW X ER Wx C (.BoolOp op es pos) t
  | [a], t, h => by
    have h' : r a t = true := by simpa only [cW] using h
    cases op with
    | And => exact sw_and1 (hr _ _ h')
    | Or => exact sw_or1 (hr _ _ h')
  | a :: b :: l, t, h => by
    unfold cW at h
    split at h
    · simp only [Bool.and_eq_true] at h
      exact sw_and (hr _ _ h.1) (sw_ok hr h.2)
    · simp only [Bool.and_eq_true] at h
      exact sw_or (hr _ _ h.1) (sw_ok hr h.2)
    · cases h
  | [], _, h => by simp [cW] at h
end

/-- what the check promises, at fuel n -/
structure Okn (n : Nat) : Prop where
  e : ∀ {X : Cx} {ER : ExT} {Wx : WX} {C : Calls} {z : Cz}, CxOk X ER Wx C z → ∀ m e t, cE n z m e t = true → SE X ER Wx C e t m
  o : ∀ {X : Cx} {ER : ExT} {Wx : WX} {C : Calls} {z : Cz}, CxOk X ER Wx C z → ∀ e t, cO n z e t = true → SO X ER Wx C e t
  t : ∀ {X : Cx} {ER : ExT} {Wx : WX} {C : Calls} {z : Cz}, CxOk X ER Wx C z → ∀ e t, cT n z e t = true → ST X ER Wx C e t
section
variable {X : Cx} {ER : ExT} {Wx : WX} {C : Calls} {z : Cz} {m : Bool} {n : Nat}
theorem call_ok {f : Nat} {ts : List Ex} {ar : List (Sum Nat D)} {r : Expr → Ex → Bool} {x : Str} {p pos : Pos} {es : List Expr} {kws : List Keyword} (ok : CxOk X ER Wx C z) (hr : ∀ e t, r e t = true → SE X ER Wx C e t false)
    (hca : z.calm = true) (hg : glB z x = true) (hf : fnOkB z m x f es.length (kws.filterMap (·.arg)) ar = true) (har : arOk ts.length ar = true) (hka : kws.all (·.arg.isSome) = true)
    (ha : cA r es (ts.take es.length) = true) (hk : cK r kws (ts.drop es.length) = true) : SE X ER Wx C (.Call (.Name x p) es kws pos) (.call f ts ar) m := by
  obtain ⟨gl, od⟩ := ok.gl hg
  unfold fnOkB at hf
  split at hf
  case h_2 => cases hf
  rename_i g0 fr shs hlk
  simp only [Bool.and_eq_true, Bool.or_eq_true, Bool.not_eq_true', decide_eq_true_eq] at hf
  obtain ⟨⟨rfl, hfr⟩, hq⟩ := hf
  obtain ⟨k, fx, fd, ps, F, rm, mg, kp, sh⟩ := ok.fns hca x _ _ _ hlk
  obtain ⟨q, hq1, hq2⟩ := List.any_eq_true.mp hq
  simp only [Bool.and_eq_true, decide_eq_true_eq] at hq2
  obtain ⟨⟨e2, e3⟩, e4⟩ := hq2
  obtain ⟨sh1, sh2⟩ := sh q hq1
  have e4 := arEq_eq e4
  rw [e2, e3, e4] at sh1
  rw [e4] at sh2
  obtain ⟨sl, st, l1⟩ := sl_ok hr ha
  obtain ⟨sk, l2⟩ := sk_ok hr hk
  have et : ts.take es.length ++ ts.drop es.length = ts := List.take_append_drop _ _
  have kl : kws.length = (kws.filterMap (·.arg)).length := by
    clear sk l2 hk ha sl l1 sh1 hq e3
    induction kws with
    | nil => rfl
    | cons k r ih =>
      obtain ⟨a, v, p⟩ := k
      have h' : a.isSome = true ∧ r.all (·.arg.isSome) = true := by simpa only [List.all_cons, Bool.and_eq_true] using hka
      cases a with
      | none => cases h'.1
      | some y => simp only [List.filterMap_cons, List.length_cons]; rw [← ih h'.2]
  have := se_call (n := 0) (f := g0) (p := p) (pos := pos) (ok.calm hca) F rm gl mg kp (odd_inv od).1 sh1 rfl kl ok.tk (ok.er ▸ ERx_ok) (by rw [et]; exact har) sh2 l1 l2 sl sk st hka
  rw [et] at this
  cases fr with
  | true => cases m with
    | true => exact this
    | false => exact this.share
  | false =>
    obtain rfl : m = false := hfr.elim (fun z => by cases z) id
    exact this
theorem sub_inv {own : List Nat} {e : Expr} {k : ItK} {src ifs : List Ex} {tg : Tg} {elt : Ex} (ih : Okn n) (ok : CxOk X ER Wx C z) (h : subEx (fun z e t => cE n z false e t) (cT n) z own e k src tg ifs elt = true) :
    ∃ x tge iter fs scope pos, e = .ListComp x [⟨tge, iter, fs, 0⟩] scope pos ∧ SI X ER Wx C tge iter k src ∧ BlkOk X.N X.env.scope scope (ownOf z.N own) ∧ (ownOf z.N own).map (·.2) = own ∧
      (∀ (s : Shared) (H : Hp) (c : Addr) (cl : List (Str × Addr)) (fp : List Addr), SG (X.blk s H scope (compEnvC scope cl c X.env) fp) tge tg) ∧
      (∀ (s : Shared) (H : Hp) (c : Addr) (cl : List (Str × Addr)) (fp : List Addr), STs (X.blk s H scope (compEnvC scope cl c X.env) fp) ER W0 C fs ifs) ∧
      (∀ (s : Shared) (H : Hp) (c : Addr) (cl : List (Str × Addr)) (fp : List Addr), SE (X.blk s H scope (compEnvC scope cl c X.env) fp) ER W0 C x elt false) ∧ (∀ x, foldedSetIterable iter X.env x = pure x) ∧ ∀ i ∈ tgI tg, i ∈ (ownOf z.N own).map (·.2) := by
  unfold subEx at h
  split at h
  · rename_i x tge iter fs scope pos
    simp only [Bool.and_eq_true] at h
    obtain ⟨⟨⟨⟨⟨⟨⟨_, h1⟩, h2⟩, h3⟩, h4⟩, h5⟩, h6⟩, h7⟩ := h
    obtain ⟨b1, b2, b3⟩ := blk_inv ok h1
    have bk := fun s H c cl fp => ok.blk b1.kind b3 s H c cl fp
    refine ⟨x, tge, iter, fs, scope, pos, rfl, cI_ok ok (ih.e ok false) h2, b1, b2, fun s H c cl fp => cG_ok (bk s H c cl fp) h4, fun s H c cl fp => ?_, fun s H c cl fp => ih.e (bk s H c cl fp) false _ _ h7, folded_of h3 _, ?_⟩
    · split at h6
      · exact sts_nil
      · exact sts_one (ih.t (bk s H c cl fp) _ _ h6)
      · cases h6
    · rw [b2]
      intro i hi
      simpa using List.all_eq_true.mp h5 i hi
  · cases h
theorem sub_calm {own : List Nat} {e : Expr} {k : ItK} {src ifs : List Ex} {tg : Tg} {elt : Ex} {r rT : Cz → Expr → Ex → Bool} (h : subEx r rT z own e k src tg ifs elt = true) : z.calm = true := by
  unfold subEx at h
  split at h
  · simp only [Bool.and_eq_true] at h
    exact h.1.1.1.1.1.1.1
  · cases h
theorem sub_ok {own : List Nat} {e : Expr} {k : ItK} {src ifs : List Ex} {tg : Tg} {elt : Ex} (ih : Okn n) (ok : CxOk X ER Wx C z) (h : subEx (fun z e t => cE n z false e t) (cT n) z own e k src tg ifs elt = true) : SE X ER Wx C e (.lc k src tg ifs elt own) m := by
  have hca := sub_calm h
  obtain ⟨x, tge, iter, fs, scope, pos, rfl, h1, h2, h3, h4, h5, h6, h7, h8⟩ := sub_inv ih ok h
  have := se_lc (m := m) (pos := pos) (ok.calm hca) ok.nd h1 h2 h4 h5 h6 h7 h8
  rw [h3] at this
  exact this
theorem okn : ∀ n, Okn n
  | 0 => ⟨fun _ m e t h => by simp [cE] at h, fun _ e t h => by simp [cO] at h, fun _ e t h => by simp [cT] at h⟩
  | n + 1 => by
    have ih := okn n
    refine ⟨@fun X ER Wx C z ok m e t h => ?_, @fun X ER Wx C z ok e t h => ?_, @fun X ER Wx C z ok e t h => ?_⟩
    · unfold cE at h
      split at h
      · simp only [Bool.and_eq_true, Bool.or_eq_true, Bool.not_eq_true'] at h
        exact con_ok ok h.1 h.2
      · simp only [Bool.and_eq_true, Bool.not_eq_true'] at h
        obtain ⟨rfl, h⟩ := h
        obtain ⟨x, p, rfl, h1, h2, h3, h4⟩ := slot_inv ok h
        exact se_var h1 h2 h3 h4
      · simp only [Bool.and_eq_true] at h
        obtain ⟨rfl, h⟩ := h
        obtain ⟨x, p, rfl, h1, h2, h3, h4⟩ := slot_inv ok h
        exact se_mov h1 h2 h3 h4
      · exact op_ok ok (ih.o ok) h
      · simp only [Bool.and_eq_true, Bool.not_eq_true'] at h
        obtain ⟨rfl, h⟩ := h
        split at h
        · exact se_tup (sl_ok (ih.e ok false) h).1
        · cases h
      · split at h
        · exact se_lst (sl_ok (ih.e ok false) h).1
        · cases h
      · split at h
        · exact se_dnew
        · simp only [Bool.and_eq_true] at h
          exact se_dct1 (ih.e ok false _ _ h.1) (ih.e ok false _ _ h.2)
        · cases h
      · simp only [Bool.and_eq_true, Bool.not_eq_true'] at h
        obtain ⟨rfl, h⟩ := h
        split at h
        · simp only [Bool.and_eq_true] at h
          exact se_and (ih.e ok false _ _ h.1) (se_one (ih.e ok false _ _ h.2))
        · simp only [Bool.and_eq_true] at h
          exact se_and (ih.e ok false _ _ h.1) (ih.e ok false _ _ h.2)
        · cases h
      · simp only [Bool.and_eq_true, Bool.not_eq_true'] at h
        obtain ⟨rfl, h⟩ := h
        split at h
        · simp only [Bool.and_eq_true] at h
          exact se_or (ih.e ok false _ _ h.1) (se_one (ih.e ok false _ _ h.2))
        · simp only [Bool.and_eq_true] at h
          exact se_or (ih.e ok false _ _ h.1) (ih.e ok false _ _ h.2)
        · cases h
      · simp only [Bool.and_eq_true, Bool.not_eq_true'] at h
        obtain ⟨rfl, h⟩ := h
        split at h
        · exact se_not (ih.e ok false _ _ h)
        · cases h
      · split at h
        · simp only [Bool.and_eq_true] at h
          exact se_ite (ih.t ok _ _ h.1.1) (ih.e ok m _ _ h.1.2) (ih.e ok m _ _ h.2)
        · cases h
      · simp only [Bool.and_eq_true, Bool.not_eq_true'] at h
        obtain ⟨rfl, h⟩ := h
        split at h
        · simp only [Bool.and_eq_true, Bool.not_eq_true'] at h
          obtain ⟨⟨⟨⟨⟨c1, c2⟩, ha⟩, hb⟩, hc⟩, hm⟩ := h
          obtain ⟨r1, q1, q2⟩ := cmp_ok ok c1
          obtain ⟨r2, q3, q4⟩ := cmp_ok ok c2
          exact se_chn q1 q3 q2 q4 (ih.e ok false _ _ ha) (ih.e ok false _ _ hb) (ih.e ok false _ _ hc) hm
        · cases h
      · simp only [Bool.and_eq_true] at h
        obtain ⟨hca, h⟩ := h
        split at h
        · simp only [Bool.and_eq_true] at h
          obtain ⟨⟨⟨⟨⟨h1, h2⟩, h4⟩, h5⟩, h6⟩, h7⟩ := h
          exact call_ok ok (ih.e ok false) hca h1 h2 h4 h5 h6 h7
        · cases h
      · simp only [Bool.and_eq_true, Bool.not_eq_true'] at h
        obtain ⟨rfl, h⟩ := h
        exact se_cel (ih.e ok true _ _ h)
      · simp only [Bool.and_eq_true, Bool.not_eq_true'] at h
        obtain ⟨rfl, h⟩ := h
        split at h
        · simp only [Bool.and_eq_true, decide_eq_true_eq] at h
          obtain ⟨⟨⟨⟨rfl, h2⟩, h3⟩, h4⟩, h5⟩ := h
          obtain ⟨x, p, rfl, q1, q2, q3, q4⟩ := slot_inv ok h2
          exact se_pop q1 q2 q3 q4 (ih.e ok false _ _ h4) h3 h5
        · cases h
      · simp only [Bool.and_eq_true, Bool.not_eq_true'] at h
        obtain ⟨rfl, h⟩ := h
        split at h
        · simp only [Bool.and_eq_true, decide_eq_true_eq] at h
          obtain ⟨rfl, h2⟩ := h
          obtain ⟨x, p, rfl, q1, q2, q3, q4⟩ := slot_inv ok h2
          exact se_xfl ok.ekit q1 q2 q3 q4
        · cases h
      · simp only [Bool.and_eq_true, Bool.not_eq_true'] at h
        obtain ⟨rfl, h⟩ := h
        split at h
        · simp only [Bool.and_eq_true, decide_eq_true_eq, List.contains_iff_mem] at h
          obtain ⟨⟨⟨⟨⟨rfl, h1⟩, h2⟩, rfl⟩, h3⟩, h4⟩ := h
          obtain ⟨x, p, rfl, q1, q2, q3, q4⟩ := slot_inv ok h2
          obtain ⟨k1, k2⟩ := ok.xn _ h4
          exact se_xis ok.ekit q1 q2 q3 q4 (ok.gl h1).1 (ok.blt _ (by decide)) rfl k1 (ok.gl h3).1 k2 (odd_inv (ok.gl h3).2).1
        · cases h
      · exact sub_ok ih ok h
      · cases h
    · unfold cO at h
      split at h
      · obtain ⟨x, p, rfl, h1, h2, h3, h4⟩ := slot_inv ok h
        exact so_brw h1 h2 h3 h4
      · rename_i hb
        refine SO.of (ih.e ok false _ _ h) ?_
        cases t <;> first | rfl | exact absurd rfl (hb _)
    · unfold cT at h
      split at h
      · exact (sw_ok (ih.t ok) h).st
      · split at h
        · exact st_not (ih.t ok _ _ h)
        · cases h
      · split at h
        · simp only [Bool.and_eq_true, Bool.not_eq_true'] at h
          obtain ⟨⟨⟨hb, ha⟩, hb2⟩, hm⟩ := h
          obtain ⟨rr, h1, h2⟩ := cmp_ok ok hb
          exact st_cmp h1 h2 (ih.o ok _ _ ha) (ih.o ok _ _ hb2) hm
        · simp only [Bool.and_eq_true] at h
          obtain ⟨ha, h⟩ := h
          split at h
          · simp only [Bool.and_eq_true, Bool.or_eq_true, decide_eq_true_eq] at h
            rcases h with ⟨rfl, rfl⟩ | ⟨rfl, rfl⟩
            · exact st_isN (se_isN (ih.o ok _ _ ha)) (ih.o ok _ _ ha)
            · exact st_isNotN (ih.o ok _ _ ha)
          · simp only [Bool.and_eq_true, Bool.or_eq_true, decide_eq_true_eq] at h
            rcases h with ⟨rfl, rfl⟩ | ⟨rfl, rfl⟩
            · exact st_isB (ih.o ok _ _ ha)
            · exact st_isNB (ih.o ok _ _ ha)
          · cases h
        · cases h
      · split at h
        · simp only [Bool.and_eq_true, Bool.not_eq_true'] at h
          obtain ⟨⟨⟨⟨⟨c1, c2⟩, ha⟩, hb⟩, hc⟩, hm⟩ := h
          obtain ⟨r1, q1, q2⟩ := cmp_ok ok c1
          obtain ⟨r2, q3, q4⟩ := cmp_ok ok c2
          exact st_chn q1 q3 q2 q4 (ih.e ok false _ _ ha) (ih.e ok false _ _ hb) (ih.e ok false _ _ hc) hm
        · cases h
      · split at h
        · simp only [Bool.and_eq_true] at h
          exact st_tru (ih.e ok false _ _ h.2) h.1
        · cases h
end
end Mp
namespace Mp
open PySem PySem.Spec L2
def parB (es : List Expr) : Bool := es.all notStar && !(es.all (foldedForSure 8)) && !(es.all (constantsAlone 8))
theorem sw2 {x y : Str} {px py pt pt2 : Pos} {kt k2 : Nat} {a b : Expr} {env : Env} (hb : (env.blockKind == .function) = true) (hx : env.scope.names.lookup x = some .local) (hy : env.scope.names.lookup y = some .local) (hl : (py.line == px.line) = true) (hn : x ≠ y) (h : parB [a, b] = true) :
    swappedStores [.Tuple [.Name x px, .Name y py] kt pt] (.Tuple [a, b] k2 pt2) env = pure (some [x, y]) := by
  unfold parB at h
  simp only [Bool.and_eq_true, Bool.not_eq_true'] at h
  obtain ⟨⟨h1, h2⟩, h3⟩ := h
  have kx : env.kindOf x = some .local := hx
  have ky : env.kindOf y = some .local := hy
  have hbk : env.blockKind = .function := by simpa using hb
  have hl' : py.line = px.line := by simpa using hl
  unfold swappedStores
  simp only [List.length_cons, List.length_nil, h2, h3, kx, ky, hbk, hl', Expr.pos, List.head?_cons, Option.map_some, Option.getD_some, List.filterMap_cons, List.filterMap_nil, beq_self_eq_true, Bool.and_self, if_true, Bool.not_true, bne_self_eq_false, Bool.or_self, Bool.false_eq_true, if_false]
  have hd : ([x, y] : List Str).eraseDups.length = 2 := by
    have : (y == x) = false := by simpa using fun z => hn z.symm
    simp [List.eraseDups, List.eraseDupsBy, List.eraseDupsBy.loop, this]
  have ha : notStar a = true ∧ notStar b = true := by simpa using h1
  simp [hd]
  intro q
  exfalso
  rcases q with q | q
  · cases a <;> first | (cases q; done) | (cases ha.1; done)
  · cases b <;> first | (cases q; done) | (cases ha.2; done)
theorem sw3 {x y z : Str} {px py pz pt pt2 : Pos} {kt k2 : Nat} {a b c : Expr} {env : Env} (hb : (env.blockKind == .function) = true) (hx : env.scope.names.lookup x = some .local) (hy : env.scope.names.lookup y = some .local) (hz : env.scope.names.lookup z = some .local) (hl : (py.line == px.line) = true) (hl2 : (pz.line == px.line) = true)
    (hn : x ≠ y) (hn2 : x ≠ z) (hn3 : y ≠ z) (h : parB [a, b, c] = true) : swappedStores [.Tuple [.Name x px, .Name y py, .Name z pz] kt pt] (.Tuple [a, b, c] k2 pt2) env = pure (some [x, y, z]) := by
  unfold parB at h
  simp only [Bool.and_eq_true, Bool.not_eq_true'] at h
  obtain ⟨⟨h1, h2⟩, h3⟩ := h
  have kx : env.kindOf x = some .local := hx
  have ky : env.kindOf y = some .local := hy
  have kz : env.kindOf z = some .local := hz
  have hbk : env.blockKind = .function := by simpa using hb
  have hl' : py.line = px.line := by simpa using hl
  have hl2' : pz.line = px.line := by simpa using hl2
  unfold swappedStores
  simp only [List.length_cons, List.length_nil, h2, h3, kx, ky, kz, hbk, hl', hl2', Expr.pos, List.head?_cons, Option.map_some, Option.getD_some, List.filterMap_cons, List.filterMap_nil, beq_self_eq_true, Bool.and_self, if_true, Bool.not_true, bne_self_eq_false, Bool.or_self, Bool.false_eq_true, if_false]
  have hd : ([x, y, z] : List Str).eraseDups.length = 3 := by
    have e1 : (y == x) = false := by simpa using fun w => hn w.symm
    have e2 : (z == x) = false := by simpa using fun w => hn2 w.symm
    have e3 : (z == y) = false := by simpa using fun w => hn3 w.symm
    simp [List.eraseDups, List.eraseDupsBy, List.eraseDupsBy.loop, e1, e2, e3]
  have ha : notStar a = true ∧ notStar b = true ∧ notStar c = true := by simpa using h1
  simp [hd]
  intro q
  exfalso
  rcases q with q | q | q
  · cases a <;> first | (cases q; done) | (cases ha.1; done)
  · cases b <;> first | (cases q; done) | (cases ha.2.1; done)
  · cases c <;> first | (cases q; done) | (cases ha.2.2; done)

/-- a comprehension that goes to a name: is the store the comprehension's last deed? -/
def swapB (z : Cz) (x : Str) (p : Pos) (e : Expr) : Bool := match e with
  | .ListComp _ _ s pos => decide (z.sc.lookup x = some .local) && (p.line == pos.line) && !(s.names.any fun (n, k) => n == x && (k == .local || k == .cell))
  | _ => false
def lcEx (r : Expr → Ex → Bool) (rl : Expr → ItK → List Ex → Tg → List Ex → Ex → List Nat → Bool) (z : Cz) (x : Str) (p : Pos) (e : Expr) (t : Ex) : Bool :=
  (notComp e && r e t) || (swapB z x p e && (match t with
    | .lc k src tg ifs elt own => rl e k src tg ifs elt own
    | _ => false))
mutual
def cS : Nat → Cz → Stmt → Sm → Bool
  | 0, _, _, _ => false
  | n + 1, z, p, q => match q with
    | .pass => (match p with
      | .Pass _ => true
      | .Expr (.Constant (.str _) _ _) _ => true
      | _ => false)
    | .brk => (match p with
      | .Break _ => true
      | _ => false)
    | .cnt => (match p with
      | .Continue _ => true
      | _ => false)
    | .ret t => (match p with
      | .Return none _ => (match t with
        | .con .non => true
        | _ => false)
      | .Return (some e) _ => cE n z z.fr e t
      | _ => false)
    | .exp t => (match p with
      | .Expr e _ => notComp e && cE n z false e t
      | _ => false)
    | .asg tg t => (match p with
      | .Assign [tge] e _ => (match tge, tg with
        | .Name x p, .nm i => decide (z.N[i]? = some x) && locB z x && lcEx (cE n z false) (fun e k src tg ifs elt own => subEx (fun z e t => cE n z false e t) (cT n) z own e k src tg ifs elt) z x p e t
        | _, _ => notStar tge && cG z tge tg && notComp e && !isTup e && cE n z false e t)
      | _ => false)
    | .asgO i t => (match p with
      | .Assign [.Name x p] e _ => decide (z.N[i]? = some x) && locB z x && lcEx (cE n z true) (fun e k src tg ifs elt own => subEx (fun z e t => cE n z false e t) (cT n) z own e k src tg ifs elt) z x p e t
      | _ => false)
    | .setI i tk t => (match p with
      | .Assign [.Subscript o k _] e _ => slotOk z o i && notComp e && !isTup e && cE n z false k tk && cE n z false e t && notSlice k
      | _ => false)
    | .app i t => (match p with
      | .Expr (.Call (.Attribute o x apos) [y] [] cpos) _ => decide (x = "append") && slotOk z o i && notStar y && cE n z false y t && (apos.endLine == cpos.line)
      | _ => false)
    | .ite c a b => (match p with
      | .If x y w _ => cT n z x c && cSs n z y a && cSs n z w b
      | _ => false)
    | .for_ k src tg body => (match p with
      | .For tge iter b [] _ => z.calm && cI (cE n z false) z iter k src && notSet iter && cG z tge tg && cSs n z b body
      | _ => false)
    | .whl c body => (match p with
      | .While x b [] _ => z.calm && cT n z x c && cSs n z b body
      | _ => false)
    | .rais c ts => (match p with
      | .Raise (some (.Call (.Name x _) [a] [] _)) none _ => z.calm && z.xn.contains c && decide (x = clsN c) && decide ((fldsOf c).length = 1) && glB z x && cA (cE n z false) [a] ts
      | _ => false)
    | .tryA body cs qs => (match p with
      | .Try b (h :: hs) [] [] _ => z.calm && cSs n z b body && cH n z (h :: hs) cs qs
      | _ => false)
    | .par is ts => (match p, is with
      | .Assign [.Tuple [.Name x px, .Name y py] _ _] (.Tuple [a, b] _ _) _, [i, j] => z.calm && decide (z.N[i]? = some x) && decide (z.N[j]? = some y) && decide (z.sc.lookup x = some .local) && decide (z.sc.lookup y = some .local) &&
        (py.line == px.line) && decide (x ≠ y) && parB [a, b] && cA (cE n z false) [a, b] ts
      | .Assign [.Tuple [.Name x px, .Name y py, .Name u pu] _ _] (.Tuple [a, b, c] _ _) _, [i, j, l] => z.calm && decide (z.N[i]? = some x) && decide (z.N[j]? = some y) && decide (z.N[l]? = some u) && decide (z.sc.lookup x = some .local) && decide (z.sc.lookup y = some .local) && decide (z.sc.lookup u = some .local) &&
        (py.line == px.line) && (pu.line == px.line) && decide (x ≠ y) && decide (x ≠ u) && decide (y ≠ u) && parB [a, b, c] && cA (cE n z false) [a, b, c] ts
      | _, _ => false)
    | .setF i f t => (match p with
      | .Assign [.Attribute o x _] e _ => decide (x = f) && slotOk z o i && notComp e && !isTup e && cE n z false e t
      | _ => false)
/-- the handlers -/
def cH : Nat → Cz → List ExceptHandler → List (Nat × Nat) → List (List Sm) → Bool
  | 0, _, _, _, _ => false
  | _ + 1, _, [], [], [] => true
  | n + 1, z, .ExceptHandler (some (.Name x _)) (some y) (b :: bs) _ :: hs, (k, i) :: cs, q :: qs => z.xn.contains k && decide (x = clsN k) && glB z x && decide (z.N[i]? = some y) && decide (z.sc.lookup y = some .local) &&
    cSs n { z with calm := false } (b :: bs) q && cH n z hs cs qs
  | _ + 1, _, _, _, _ => false
def cSs : Nat → Cz → List Stmt → List Sm → Bool
  | 0, _, _, _ => false
  | _ + 1, _, [], [] => true
  | n + 1, z, p :: ps, q :: qs => cS n z p q && cSs n z ps qs
  | _ + 1, _, _, _ => false
end
structure SxOk (X : Cx) (ER : ExT) (Wx : WX) (C : Calls) (z : Cz) : Prop where
  cx : CxOk X ER Wx C z
  po : z.calm = true → PassesOwn (model X.prog X.w) X.A X.env X.xe
  bk : (X.env.blockKind == .function) = true
  stk : X.stack = X.env :: X.outer
  frm : X.env.frame = some X.env.locals
section
variable {X : Cx} {ER : ExT} {Wx : WX} {C : Calls} {z : Cz} {m : Bool} {n : Nat}
theorem tLc_mono {wi : TI} {g : TG} {tt : TT} {te : TE} {vs : List Nat} {σ : L2.St} {H : Hp} {Q Q' : VK} (hwi : ∀ R R' : It → Hp → Prop, (∀ J H, R J H → R' J H) → wi σ H R → wi σ H R') (h : tLc wi g tt te vs σ H Q) (i : ∀ v H', Q v H' → Q' v H') : tLc wi g tt te vs σ H Q' := by
  refine hwi _ _ (fun J H1 h D hD => ?_) h
  obtain ⟨W, w0, w1⟩ := h D hD
  refine ⟨W, w0, fun a b H2 w => ?_⟩
  rcases w1 a b H2 w with ⟨x, y⟩ | x
  · exact .inl ⟨x, i _ _ y⟩
  · exact .inr x
theorem rdI_mono {K : Kc} {k : ItK} {w : Stt → (List D → Stt → Prop) → PX → Prop} {σ : L2.St} {H : Hp} {R R' : It → Hp → Prop} (i : ∀ J H, R J H → R' J H) (h : rdI K ER Wx k w σ H R) : rdI K ER Wx k w σ H R' := by
  obtain ⟨g, st, Qd, Xd, A, w, h1, h2, h3⟩ := h
  exact ⟨g, st, Qd, Xd, A, w, h1, fun ds st' items J g' H' a b c d e => i _ _ (h2 _ _ _ _ _ _ a b c d e), h3⟩
theorem ss_lcN {x : Str} {i : Nat} {e : Expr} {p pos : Pos} {own : List Nat} {k : ItK} {src ifs : List Ex} {tg : Tg} {elt : Ex} (ok : SxOk X ER Wx C z) (hi : X.N[i]? = some x) (hs : swapB z x p e = true) (h : subEx (fun z e t => cE n z false e t) (cT n) z own e k src tg ifs elt = true) :
    SS X ER Wx C m (.Assign [.Name x p] e pos) (.asg (.nm i) (.lc k src tg ifs elt own)) ∧ SS X ER Wx C m (.Assign [.Name x p] e pos) (.asgO i (.lc k src tg ifs elt own)) := by
  have hca := sub_calm h
  obtain ⟨y, tge, iter, fs, scope, pos', rfl, h1, h2, h3, h4, h5, h6, h7, h8⟩ := sub_inv (okn n) ok.cx h
  have hs' : (z.sc.lookup x = some .local ∧ (p.line == pos'.line) = true) ∧ (scope.names.any fun (n, k) => n == x && (k == .local || k == .cell)) = false := by simpa [swapB] using hs
  have hsw : swapsWith (.ListComp y [⟨tge, iter, fs, 0⟩] scope pos') (some (.Name x p)) pos.line X.env = pure true := by
    unfold swapsWith
    show (pure (X.env.blockKind == .function && X.env.kindOf x == some .local && p.line == pos'.line && !(scope.names.any fun (n, k) => n == x && (k == .local || k == .cell))) : Sem Bool) = pure true
    rw [hs'.2, hs'.1.2, ok.bk, show X.env.kindOf x = some .local by unfold Env.kindOf; rw [ok.cx.sc]; exact hs'.1.1]
    rfl
  have ek : ∀ (s : Shared) (H : Hp) (c : Addr) (cl : List (Str × Addr)) (fp : List Addr), kz (X.blk s H scope (compEnvC scope cl c X.env) fp) = kz X := fun s H c cl fp => by rw [kz_calm (ok.cx.calm hca), kz_calm (X := X.blk s H scope (compEnvC scope cl c X.env) fp) (ok.cx.calm hca)]
  have h4 : ∀ (s : Shared) (H : Hp) (c : Addr) (cl : List (Str × Addr)) (fp : List Addr), PG (X.blk s H scope (compEnvC scope cl c X.env) fp) tge (rdG (kz X) tg) := fun s H c cl fp => by rw [← ek s H c cl fp]; exact h4 s H c cl fp
  have h5 : ∀ (s : Shared) (H : Hp) (c : Addr) (cl : List (Str × Addr)) (fp : List Addr), PTs (X.blk s H scope (compEnvC scope cl c X.env) fp) fs (rdT (kz X) ER W0 (wTs C ifs)) := fun s H c cl fp => by rw [← ek s H c cl fp]; exact h5 s H c cl fp
  have h6 : ∀ (s : Shared) (H : Hp) (c : Addr) (cl : List (Str × Addr)) (fp : List Addr), PE (X.blk s H scope (compEnvC scope cl c X.env) fp) y (rdE (kz X) ER W0 (wE C elt) false) := fun s H c cl fp => by rw [← ek s H c cl fp]; exact h6 s H c cl fp
  have base := ps_setLc (g := rdG (kz X) tg) (tt := rdT (kz X) ER W0 (wTs C ifs)) (te := rdE (kz X) ER W0 (wE C elt) false) (ok.cx.calm hca) ok.cx.nd hi (by rw [ok.cx.sc]; exact hs'.1.1) hsw h1 h2 h4 h5 h6 h7
  refine ⟨psImp base fun D s H h => ?_, psImp base fun D s H h => ?_⟩
  · have q := rdSt_asg h
    rw [h3]
    exact tLc_mono (fun R R' i => rdI_mono i) (rd_lc (by rw [← h3]; exact h8) q) fun v H' q => rdG_nm q
  · have q := rdSt_asgO h
    rw [h3]
    exact rd_lc (by rw [← h3]; exact h8) q
theorem asg_sub {o k : Expr} {p : Pos} {env : Env} (h : notSlice k = true) (v : Value) : assign (.Subscript o k p) env v = (do
      let ov ← holding [v] (eval o env)
      let iv ← holding [v, ov] (eval k env)
      standAt p
      holding [v, ov, iv] (setItem ov iv v)
      release [v, ov, iv] []) := by
  cases k <;> first | rfl | cases h
theorem CxOk.suite (ok : CxOk X ER Wx C z) (a : Addr) (oe : Obj) (pn : List (Addr × Obj)) : CxOk (X.suite a ((a, oe) :: pn)) ER W0 C { z with calm := false } :=
  { nd := ok.nd, hN := ok.hN, calm := fun z => (by cases z), kd := ok.kd, sc := ok.sc, fn := ok.fn, un := ok.un, blt := ok.blt, glo := ok.glo, rm := fun z => (by cases z),
    fns := fun z => (by cases z), tk := takes_none5, er := ok.er, kit := ok.kit, ekit := ok.ekit, htop := ok.htop, kn := ok.kn, xn := ok.xn }
structure Oks (n : Nat) : Prop where
  s : ∀ {X : Cx} {ER : ExT} {Wx : WX} {C : Calls} {z : Cz}, SxOk X ER Wx C z → ∀ p q, cS n z p q = true → SS X ER Wx C z.fr p q
  ss : ∀ {X : Cx} {ER : ExT} {Wx : WX} {C : Calls} {z : Cz}, SxOk X ER Wx C z → ∀ p q, cSs n z p q = true → SSs X ER Wx C z.fr p q
  h : ∀ {X : Cx} {ER : ExT} {Wx : WX} {C : Calls} {z : Cz}, SxOk X ER Wx C z → z.calm = true → ∀ hs cs qs, cH n z hs cs qs = true → HdsM X ER C z.fr hs cs qs
theorem oks : ∀ n, Oks n
  | 0 => ⟨fun _ p q h => by simp [cS] at h, fun _ p q h => by simp [cSs] at h, fun _ _ hs cs qs h => by simp [cH] at h⟩
  | n + 1 => by
    have ih := oks n
    refine ⟨@fun X ER Wx C z ok p q h => ?_, @fun X ER Wx C z ok p q h => ?_, @fun X ER Wx C z ok hca hs cs qs h => ?_⟩
    · unfold cS at h
      split at h
      · split at h
        · exact ss_pass
        · exact ss_doc
        · cases h
      · split at h
        · exact ss_brk
        · cases h
      · split at h
        · exact ss_cnt
        · cases h
      · split at h
        · split at h
          · exact ss_retN
          · cases h
        · exact ss_ret ((okn n).e ok.cx _ _ _ h)
        · cases h
      · split at h
        · simp only [Bool.and_eq_true] at h
          exact ss_exp ((okn n).e ok.cx _ _ _ h.2) h.1
        · cases h
      · split at h
        · split at h
          · simp only [Bool.and_eq_true, decide_eq_true_eq] at h
            obtain ⟨⟨h1, h2⟩, h3⟩ := h
            have h1' := h1
            rw [← ok.cx.hN] at h1'
            obtain ⟨l, f⟩ := ok.cx.loc h2
            unfold lcEx at h3
            simp only [Bool.or_eq_true, Bool.and_eq_true] at h3
            rcases h3 with ⟨h4, h5⟩ | ⟨h4, h5⟩
            · exact ss_asgN ok.cx.nd h1' l f ((okn n).e ok.cx _ _ _ h5) h4
            · split at h5
              · exact (ss_lcN ok h1' h4 h5).1
              · cases h5
          · simp only [Bool.and_eq_true, Bool.not_eq_true'] at h
            obtain ⟨⟨⟨⟨h1, h2⟩, h3⟩, h4⟩, h5⟩ := h
            exact ss_asgT (cG_ok ok.cx h2) ((okn n).e ok.cx _ _ _ h5) h3 h4 (by rw [each_of h1]; rfl)
        · cases h
      · split at h
        · simp only [Bool.and_eq_true, decide_eq_true_eq] at h
          obtain ⟨⟨h1, h2⟩, h3⟩ := h
          have h1' := h1
          rw [← ok.cx.hN] at h1'
          obtain ⟨l, f⟩ := ok.cx.loc h2
          unfold lcEx at h3
          simp only [Bool.or_eq_true, Bool.and_eq_true] at h3
          rcases h3 with ⟨h4, h5⟩ | ⟨h4, h5⟩
          · exact ss_asgO ok.cx.nd h1' l f ((okn n).e ok.cx _ _ _ h5) h4
          · split at h5
            · exact (ss_lcN ok h1' h4 h5).2
            · cases h5
        · cases h
      · split at h
        · simp only [Bool.and_eq_true, Bool.not_eq_true'] at h
          obtain ⟨⟨⟨⟨⟨h1, h2⟩, h3⟩, h4⟩, h5⟩, h6⟩ := h
          obtain ⟨x, p, rfl, q1, q2, q3, q4⟩ := slot_inv ok.cx h1
          exact ss_setI q1 q2 q3 q4 ((okn n).e ok.cx _ _ _ h4) ((okn n).e ok.cx _ _ _ h5) h2 h3 (asg_sub h6)
        · cases h
      · split at h
        · simp only [Bool.and_eq_true, decide_eq_true_eq] at h
          obtain ⟨⟨⟨⟨rfl, h2⟩, h3⟩, h4⟩, h5⟩ := h
          obtain ⟨x, p, rfl, q1, q2, q3, q4⟩ := slot_inv ok.cx h2
          exact ss_app q1 q2 q3 q4 ((okn n).e ok.cx _ _ _ h4) h3 h5
        · cases h
      · split at h
        · simp only [Bool.and_eq_true] at h
          exact ss_ite ((okn n).t ok.cx _ _ h.1.1) (ih.ss ok _ _ h.1.2) (ih.ss ok _ _ h.2)
        · cases h
      · split at h
        · simp only [Bool.and_eq_true] at h
          obtain ⟨⟨⟨⟨h0, h1⟩, h2⟩, h3⟩, h4⟩ := h
          exact ss_for (ok.po h0) (ok.cx.calm h0) (cI_ok ok.cx ((okn n).e ok.cx false) h1) (cG_ok ok.cx h3) (ih.ss ok _ _ h4) (folded_of h2 _)
        · cases h
      · split at h
        · simp only [Bool.and_eq_true] at h
          exact ss_whl (ok.po h.1.1) ((okn n).t ok.cx _ _ h.1.2) (ih.ss ok _ _ h.2)
        · cases h
      · split at h
        · rename_i x p1 a p2 p3
          simp only [Bool.and_eq_true, decide_eq_true_eq, List.contains_iff_mem] at h
          obtain ⟨⟨⟨⟨⟨hca, h1⟩, rfl⟩, h3⟩, h4⟩, h5⟩ := h
          obtain ⟨k1, k2⟩ := ok.cx.xn _ h1
          obtain ⟨f, hf⟩ := List.length_eq_one_iff.mp h3
          obtain ⟨k, hr⟩ := ok.cx.rm hca
          obtain ⟨gl, od⟩ := ok.cx.gl h4
          obtain ⟨sl, sn, ln⟩ := sl_ok ((okn n).e ok.cx false) h5
          exact ss_rais (ok.cx.calm hca) ok.cx.er ok.cx.ekit k1 hf rfl k2 ok.cx.htop hr gl (odd_inv od).1 ok.cx.tk sl ln (by simpa using sn)
        · cases h
      · split at h
        · simp only [Bool.and_eq_true] at h
          obtain ⟨⟨hca, h1⟩, h2⟩ := h
          refine ss_try (ok.cx.calm hca) ok.cx.er ok.cx.ekit ok.stk ok.frm ok.cx.nd ok.cx.tk (fun W pn xe t p => ih.ss (X := X.tr pn xe) (z := z) ⟨{ nd := ok.cx.nd, hN := ok.cx.hN, calm := ok.cx.calm, kd := ok.cx.kd, sc := ok.cx.sc, fn := ok.cx.fn, un := ok.cx.un, blt := ok.cx.blt, glo := ok.cx.glo, rm := ok.cx.rm, fns := ok.cx.fns, tk := t, er := ok.cx.er, kit := ok.cx.kit, ekit := ok.cx.ekit, htop := ok.cx.htop, kn := ok.cx.kn, xn := ok.cx.xn }, fun _ => p, ok.bk, ok.stk, ok.frm⟩ _ _ h1) (ih.h ok hca _ _ _ h2)
        · cases h
      · split at h
        · simp only [Bool.and_eq_true, decide_eq_true_eq] at h
          obtain ⟨⟨⟨⟨⟨⟨⟨⟨hca, h1⟩, h2⟩, h3⟩, h4⟩, h5⟩, h6⟩, h7⟩, h8⟩ := h
          obtain ⟨sl, sn, ln⟩ := sl_ok ((okn n).e ok.cx false) h8
          rw [← ok.cx.hN] at h1 h2
          rw [← ok.cx.sc] at h3 h4
          refine ss_par2 (ok.cx.calm hca) ok.cx.nd h1 h2 (fun z => ?_) h3 h4 sl ln (sw2 ok.bk h3 h4 h5 h6 h7)
          rw [z, h2] at h1
          cases h1
          exact h6 rfl
        · simp only [Bool.and_eq_true, decide_eq_true_eq] at h
          obtain ⟨⟨⟨⟨⟨⟨⟨⟨⟨⟨⟨⟨⟨hca, h1⟩, h2⟩, h2b⟩, h3⟩, h4⟩, h4b⟩, h5⟩, h5b⟩, h6⟩, h6b⟩, h6c⟩, h7⟩, h8⟩ := h
          obtain ⟨sl, sn, ln⟩ := sl_ok ((okn n).e ok.cx false) h8
          rw [← ok.cx.hN] at h1 h2 h2b
          rw [← ok.cx.sc] at h3 h4 h4b
          refine ss_par3 (ok.cx.calm hca) ok.cx.nd h1 h2 h2b (fun z => ?_) (fun z => ?_) (fun z => ?_) h3 h4 h4b sl ln (sw3 ok.bk h3 h4 h4b h5 h5b h6 h6b h6c h7)
          · rw [z, h2] at h1
            cases h1
            exact h6 rfl
          · rw [z, h2b] at h1
            cases h1
            exact h6b rfl
          · rw [z, h2b] at h2
            cases h2
            exact h6c rfl
        · cases h
      · split at h
        · simp only [Bool.and_eq_true, decide_eq_true_eq, Bool.not_eq_true'] at h
          obtain ⟨⟨⟨⟨rfl, h2⟩, h3⟩, h4⟩, h5⟩ := h
          obtain ⟨x, p, rfl, q1, q2, q3, q4⟩ := slot_inv ok.cx h2
          exact ss_setF ok.cx.kit q1 q2 q3 q4 ((okn n).e ok.cx _ _ _ h5) h3
        · cases h
    · unfold cSs at h
      split at h
      · rename_i e; cases e
      · exact sss_nil
      · rename_i e
        cases e
        simp only [Bool.and_eq_true] at h
        exact sss_cons (ih.s ok _ _ h.1) (ih.ss ok _ _ h.2)
      · cases h
    · unfold cH at h
      split at h
      · rename_i e; cases e
      · exact .nil
      · rename_i n' z' x p1 y b bs p2 hs k i cs q qs e
        cases e
        simp only [Bool.and_eq_true, decide_eq_true_eq, List.contains_iff_mem] at h
        obtain ⟨⟨⟨⟨⟨⟨h1, rfl⟩, h3⟩, h4⟩, h5⟩, h6⟩, h7⟩ := h
        obtain ⟨k1, k2⟩ := ok.cx.xn _ h1
        obtain ⟨gl, od⟩ := ok.cx.gl h3
        refine .cons k1 ⟨gl, (odd_inv od).1, .inl k2⟩ (by rw [ok.cx.hN]; exact h4) (by unfold Env.kindOf; rw [ok.cx.sc]; exact h5) (fun a oe pn => ?_) (ih.h ok hca _ _ _ h7)
        exact ih.ss ⟨ok.cx.suite a oe pn, fun z => (by cases z), ok.bk, ok.stk, ok.frm⟩ _ _ h6
      · cases h
end
end Mp
namespace Mp
open PySem PySem.Spec L2

/-- a def's text and its small program -/
structure FT where
  x : Str
  qual : Str
  params : Arguments
  body : List Stmt
  scope : Scope
  N : List Str
  ps : List Str
  fn : Fn
/-- what the checks know of the module: constants, functions, classes, errors -/
structure Md where
  glo : List (Str × D)
  fns : List (Str × Nat × Bool × List ShT)
  kn : List Nat
  xn : List Nat
def FT.z (t : FT) (M : Md) : Cz := ⟨t.N, t.scope.names, none, M.glo, M.fns, true, t.fn.fr, M.kn, M.xn⟩
def FT.ok (t : FT) (n : Nat) (M : Md) : Bool :=
  cSs n (t.z M) t.body t.fn.body && decide (t.fn.ns = t.N.length) && decide (t.fn.np = t.ps.length) &&
  decide (t.scope.kind = .function) && !t.scope.isCoroutine && !t.scope.isGenerator && decide t.N.Nodup && decide (t.N.take t.ps.length = t.ps) &&
  t.ps.all (fun x => decide (t.scope.names.lookup x = some .local) || decide (t.scope.names.lookup x = some .cell)) && t.scope.names.all (fun y => decide (y.2 ≠ .free))
theorem FT.inv {t : FT} {n : Nat} {M : Md} (h : t.ok n M = true) :
    cSs n (t.z M) t.body t.fn.body = true ∧ t.fn.ns = t.N.length ∧ t.fn.np = t.ps.length ∧ FnScope t.N t.ps t.scope := by
  unfold FT.ok at h
  simp only [Bool.and_eq_true, decide_eq_true_eq, Bool.not_eq_true'] at h
  obtain ⟨⟨⟨⟨⟨⟨⟨⟨⟨h1, h2⟩, h3⟩, h4⟩, h5⟩, h6⟩, h7⟩, h8⟩, h9⟩, h10⟩ := h
  refine ⟨h1, h2, h3, ⟨h4, h5, h6, h7, h8, fun x hx => ?_, fun y hy => ?_⟩⟩
  · simpa using List.all_eq_true.mp h9 x hx
  · simpa using List.all_eq_true.mp h10 y hy

section
variable {K : Kc} {g : Gh} {st : Stt} {s : L2.St} {H : Hp}
theorem Abs.toC (A : Abs K g st s H) : AbsC K g st.h H :=
  ⟨A.mw, A.wt, fun i x e => by simp at e, fun i j a h => by obtain ⟨⟨d, e⟩, _⟩ := h; simp at e, fun i a l h => by obtain ⟨⟨d, e⟩, _⟩ := h; simp at e, A.ce, A.cc⟩
theorem abs_start {f : Fn} {N : List Str} {ds : List D} {vs : List V} {h : List CO} (A : AbsC K g h H) (r : Reps K g h.length H ds vs) (hn : f.ns = N.length) : Abs K g ⟨startE f ds, h⟩ (start N vs) H := by
  have get : ∀ (i : Nat) (x : Sl), (startE f ds)[i]? = some x → (∃ d, x = .shr d ∧ ds[i]? = some d) ∨ (x = .un ∧ ds.length ≤ i ∧ i < f.ns) := fun i x e => by
    unfold startE at e
    rcases Nat.lt_or_ge i ds.length with hl | hl
    · rw [List.getElem?_append_left (by simpa using hl), List.getElem?_map] at e
      have e2 : ds[i]? = some ds[i] := List.getElem?_eq_getElem hl
      rw [e2] at e
      cases e
      exact .inl ⟨_, rfl, e2⟩
    · rw [List.getElem?_append_right (by simpa using hl), List.length_map] at e
      have hlt := lt_of_get e
      rw [List.length_replicate] at hlt
      rw [List.getElem?_replicate, if_pos hlt] at e
      cases e
      exact .inr ⟨rfl, hl, by omega⟩
  have noown : ∀ i a, ¬ OwnAt (startE f ds) (start N vs) i a := fun i a ⟨⟨d, e⟩, _⟩ => by
    rcases get i _ e with ⟨_, z, _⟩ | ⟨z, _⟩ <;> cases z
  refine ⟨A.mw, A.wt, fun i x e => ?_, fun i j a h => absurd h (noown i a), fun i a l h => absurd h (noown i a), A.ce, A.cc⟩
  have hlen := r.length
  rcases get i x e with ⟨d, rfl, e2⟩ | ⟨rfl, z1, z2⟩
  · obtain ⟨v, e3, rv⟩ := r.get e2
    refine ⟨some v, ?_, v, rfl, rv⟩
    unfold L2.start
    rw [List.getElem?_append_left (by simpa using lt_of_get e3), List.getElem?_map, e3]
    rfl
  · refine ⟨none, ?_, trivial⟩
    unfold L2.start
    rw [List.getElem?_append_right (by rw [List.length_map, hlen]; exact z1), List.length_map, List.getElem?_replicate, if_pos (by omega)]
end

/-- what the module holds -/
structure MdOk (K : PySem.W.Frag) (mg : Str → Option Value) (file : Str) (T : List (Nat × FT)) (M : Md) : Prop where
  blt : ∀ x ∈ bltNames, mg x = none
  glo : ∀ p ∈ M.glo, ∃ v, conV p.2 = some v ∧ ∃ u, mg p.1 = some u ∧ RelV v u
  fns : ∀ x i fr sh, M.fns.lookup x = some (i, fr, sh) → ∃ (t : FT) (fx : Addr) (fd : FuncData) (dvs : List V) (kws : List (Str × V)), (i, t) ∈ T ∧ t.fn.fr = fr ∧ mg x = some (.ref fx) ∧ FunD K t.x t.qual t.params t.body t.scope dvs kws fx fd ∧
    ∀ q ∈ sh, Shp K fd t.ps q.1 q.2.1 q.2.2 ∧ q.2.2.length = t.ps.length
  kit : KitB K = true
  ekit : ErrKit K file = true
  kn : ∀ c ∈ M.kn, isKnown K c = true ∧ mg (clsN c) = some (.ref (He.ga K (clsN c)))
  xn : ∀ c ∈ M.xn, isKnownX K c = true ∧ mg (clsN c) = some (.ref (He.ga K (clsN c)))

section
variable {Pg : Program} {w : World} {K : PySem.W.Frag} {mg : Str → Option Value} {base : Heap} {T : List (Nat × FT)} {M : Md} {P : Nat → Option Fn}
theorem RepM.toC {K : Kc} {g : Gh} {st : Stt} {s : L2.St} {H : Hp} : ∀ {m : Bool} {d : D} {v : V}, RepM K g st s H m d v → RepC K g st.h H m d v
  | false, _, _, h => h
  | true, _, _, .inl ⟨a, e, m, r, _, nc⟩ => .inl ⟨a, e, m, r, nc⟩
  | true, _, _, .inr h => .inr h
theorem fns_run {fu : Nat} (M0 : MdOk K mg Pg.main.file T M) (htop : (Pg.main.scope.names.lookup ("super" : Str)).isSome = false) (hP : ∀ p ∈ T, P p.1 = some p.2.fn) (hT : T.all (fun p => p.2.ok fu M) = true) :
    ∀ (n i : Nat) (t : FT) (fx : Addr) (fd : FuncData) (dvs : List V) (kws : List (Str × V)), (i, t) ∈ T → FunD K t.x t.qual t.params t.body t.scope dvs kws fx fd → FnOk Pg w K mg base (L2.CX Pg w) n fx fd t.ps (spF ⟨K, none⟩ (ERx ⟨K, none⟩) (CC P n) t.fn.fr i t.ps.length)
  | 0, i, t, fx, fd, dvs, kws, _, _ => ⟨spF_len rfl, fun A outer s H args us vs Q E _ _ _ _ ⟨g, h, ds, Qd, Xd, _, _, _, w, _⟩ => by simp [CC] at w⟩
  | n + 1, i, t, fx, fd, dvs, kws, ht, F => by
    obtain ⟨hc, hns, hnp, sc⟩ := FT.inv (List.all_eq_true.mp hT (i, t) ht)
    have ih := fns_run (fu := fu) M0 htop hP hT n
    refine F.ok sc (spF_len rfl) fun cdv A outer s H vs Q E hr hsp => ?_
    refine ⟨rdSt ⟨K, none⟩ (ERx ⟨K, none⟩) (fun cls d _ H => E cls d H) t.fn.fr (wSs (CC P n) t.fn.body), ?_, ?_⟩
    · have cx : CxOk (cxOf (L2.CX Pg w) Pg w K mg base t.N t.qual t.scope fx cdv A outer s H E) (ERx ⟨K, none⟩) (fun cls d _ H => E cls d H) (CC P n) (t.z M) :=
        { nd := sc.nd, hN := rfl, calm := fun _ => rfl, kd := sc.kind, sc := rfl, fn := fun _ => rfl, un := Nat.lt_of_le_of_lt (show (A.deeper (PyProof.Rows.envOfC t.qual t.scope s.heap.objs.size fx cdv)).units + 65 ≤ (A.deeper (PyProof.Rows.envOfC t.qual t.scope s.heap.objs.size fx cdv)).units + 16 * n + 200 by omega) hr.un, blt := M0.blt, glo := M0.glo,
          rm := fun _ => ⟨n, hr⟩,
          fns := fun _ x f fr sh hf => by
            obtain ⟨t2, fx2, fd2, dvs2, kws2, h1, h1b, h2, h3, h4⟩ := M0.fns x f fr sh hf
            refine ⟨n, fx2, fd2, t2.ps, ?_, hr, h2, h3.kp, h4⟩
            rw [← h1b]
            exact ih f t2 fx2 fd2 dvs2 kws2 h1 h3
          tk := takes_of rfl rfl rfl rfl, er := rfl, kit := M0.kit, ekit := M0.ekit, htop := htop, kn := M0.kn, xn := M0.xn }
      have sx : SxOk (cxOf (L2.CX Pg w) Pg w K mg base t.N t.qual t.scope fx cdv A outer s H E) (ERx ⟨K, none⟩) (fun cls d _ H => E cls d H) (CC P n) (t.z M) := ⟨cx, fun _ => passes_of rfl, by
        show (Env.blockKind _ == ScopeKind.function) = true
        unfold Env.blockKind
        rw [show (cxOf (L2.CX Pg w) Pg w K mg base t.N t.qual t.scope fx cdv A outer s H E).env.scope.kind = .function from sc.kind]
        rfl, rfl, rfl⟩
      exact (oks fu).ss sx _ _ hc
    · obtain ⟨g, h, ds, Qd, Xd, hl, A0, r, w, hq, hx⟩ := hsp
      have eP : P i = some t.fn := hP (i, t) ht
      have w' : (match P i with
        | some fn => ds.length = fn.np ∧ wSs (CC P n) fn.body ⟨startE fn ds, h⟩ { nx := fun st => Qd .non st.h, rt := fun d st => Qd d st.h, bk := fun _ => False, ct := fun _ => False, ex := fun c fs st => Xd c fs st.h }
        | none => False) := w
      rw [eP] at w'
      obtain ⟨_, w2⟩ := w'
      refine ⟨g, _, _, abs_start A0 r hns, w2, fun st' s' g' H' q x A' => ?_, fun d st' s' v g' H' q x A' r' => ?_, fun _ _ _ _ z => z.elim, fun _ _ _ _ z => z.elim, fun c fs st' s' cls dd g' H' q x A' r' => ?_⟩
      · refine hq _ _ _ _ _ q x A'.toC ?_
        cases t.fn.fr with
        | false => exact rfl
        | true => exact .inr ⟨rfl, rfl⟩
      · exact hq _ _ _ _ _ q x A'.toC r'.toC
      · exact hx _ _ _ _ _ _ _ q x A'.toC r'
end

/-! ### a law's end -/
theorem walk_ofM {l : PySem.W.OpenLaw} {n k : Nat} {q : Program} {loose : List Str} {XP : (Str → Option Value) → Heap → Prop} {YP : World → Heap → Prop} {d : DefRec} {x : Str}
    (hn : l.most = some n) (hn2 : n ≤ sizeLine) (hdf : d.params.defaults = []) (hr : Room k callerA)
    (F : ∀ (w : World) (mg : Str → Option Value) (fa : Addr) (h : Heap), YP w h → h.Ns mainGlobals mg → mg d.name = some (.ref fa) →
      ∃ (K : PySem.W.Frag) (fd : FuncData) (ER : ExT) (C : Calls) (i : Nat), K.In h ∧ (∀ (s : Shared) (u : Value), BindsTo s fd ⟨[u], []⟩ [(x, u)]) ∧
        (∀ ns : List Int, ns.length ≤ n → (∀ k ∈ ns, Builtin.Int.intBits k ≤ 1048576) → C i [.scr (ns.map D.int)] [] (fun d _ => d = .bl true) (fun _ _ _ => False)) ∧
        ∀ base : Heap, K.In base → base.Ns mainGlobals mg → FnOk l.prog w K mg base (L2.CX l.prog w) k fa fd [x] (spF ⟨K, none⟩ ER C false i 1)) :
    PySem.W.WalkO q loose XP YP l.row.toRowW d [] (fun f vs => PySem.call f vs) := by
  refine Att.attach_callB hn hdf fun w s₀ s₁ mg mb fa o pm cd doc a vs ns G Y ho hd hcd hmg hobj hints hlen hbits hg => ?_
  obtain ⟨K, fd, ER, C, i, KX, hb, hsp, hF⟩ := F w mg fa _ Y G.T.g hmg
  refine law_call KX G.T.g G.T.b G.T.builtins G.T.nolimit hg hobj hints (Nat.le_trans hlen hn2) hr hF hb (fun H hO hS => ?_) fun H e s' ⟨_, _, _, _, _, _, _, _, _, _, _, _, z⟩ => z
  let g : Gh := ⟨fun _ => 0, fun _ => False, fun _ => False⟩
  have rs : ∀ ns : List Int, Reps ⟨K, none⟩ g 0 H (ns.map D.int) (ns.map V.int) := fun ns => by
    induction ns with
    | nil => rfl
    | cons i ns ih => exact ⟨_, _, rfl, rfl, ih⟩
  refine ⟨g, [], [.scr (ns.map D.int)], _, _, rfl, ⟨fun _ z => z, fun _ z => z.elim, fun i x e => by simp at e, fun i j a h => by obtain ⟨⟨d, e⟩, _⟩ := h; simp at e, fun i a l h => by obtain ⟨⟨d, e⟩, _⟩ := h; simp at e, fun l o e => by simp at e, fun l m h => by obtain ⟨o, e, _⟩ := h; simp at e⟩,
    ⟨_, _, rfl, ⟨a, ns.map V.int, rfl, hS.imp (fun z => ⟨z, fun z => z⟩) id, rs ns⟩, rfl⟩, hsp ns hlen hbits, fun d h' v g' H' q x A' r => ?_, fun _ _ _ _ _ _ _ z => z.elim⟩
  subst q
  exact r
/-- the Hook: He.hookD's, and a check of one's own -/
def obsM (n : Nat) (fa : List He.Fa) (fn : List He.DefD) (xb : PySem.W.Frag → Bool) (g : Addr → Option Obj) : Bool × He.AlD :=
  (xb (He.frG g (cStatics :: He.asD g n)), He.obsD fa fn (He.frG g (cStatics :: He.asD g n)))
def hookM (n : Nat) (fa : List He.Fa) (fn : List He.DefD) (xb : PySem.W.Frag → Bool) : PySem.W.Hook where
  α := Bool × He.AlD
  obs := fun s => obsM n fa fn xb s.heap.get?
  val := fun _ => (true, He.valD fn)
  says := fun _ h => ∃ K : PySem.W.Frag, K.In h ∧ He.SaysD fa fn K ∧ xb K = true
  of := fun _ _ e => ⟨_, He.frG_in, congrArg (fun z : Bool × He.AlD => z.2) e, congrArg (fun z : Bool × He.AlD => z.1) e⟩
  keeps := fun _ _ _ ⟨K, hK, c⟩ k => ⟨K, PySem.W.Frag.In.keeps hK k, c⟩
theorem obsM_eq {n : Nat} {fa : List He.Fa} {fn : List He.DefD} {xb : PySem.W.Frag → Bool} {g : Addr → Option Obj} {s : Shared} (h : ∀ a, g a = s.heap.get? a) : obsM n fa fn xb g = (hookM n fa fn xb).obs s := by
  have e : g = s.heap.get? := funext h
  rw [e] <;> rfl
/-- the classes, the errors -/
def kitM (file : Str) (kn xn : List Nat) (K : PySem.W.Frag) : Bool := KitB K && ErrKit K file && kn.all (isKnown K) && xn.all (isKnownX K)
theorem kitM_inv {file : Str} {kn xn : List Nat} {K : PySem.W.Frag} {h : Heap} {mg : Str → Option Value} (X : K.In h) (G : h.Ns mainGlobals mg) (c : kitM file kn xn K = true) : KitB K = true ∧ ErrKit K file = true ∧
    (∀ c ∈ kn, isKnown K c = true ∧ mg (clsN c) = some (.ref (He.ga K (clsN c)))) ∧ ∀ c ∈ xn, isKnownX K c = true ∧ mg (clsN c) = some (.ref (He.ga K (clsN c))) := by
  unfold kitM at c
  simp only [Bool.and_eq_true] at c
  obtain ⟨⟨⟨h1, h2⟩, h3⟩, h4⟩ := c
  refine ⟨h1, h2, fun k hk => ?_, fun k hk => ?_⟩
  · have q := List.all_eq_true.mp h3 k hk
    exact ⟨q, PySem.W.mg_of X G (known_ns q)⟩
  · have q := List.all_eq_true.mp h4 k hk
    exact ⟨q, PySem.W.mg_of X G (knownX_ns q)⟩
/-- no defaults: how a call binds -/
theorem shp_of {K : PySem.W.Frag} {x qual : Str} {params : Arguments} {body : List Stmt} {scope : Scope} {kws : List (Str × V)} {f : Addr} {fd : FuncData} {ps : List Str} (F : FunD K x qual params body scope [] kws f fd) (n : Nat) (ks : List Str) (ix : List Nat) (hix : ix.all (fun i => decide (i < n + ks.length)) = true)
    (h : ∀ (kV doc pm : Value) (an : Option Addr) (cdv ct : Value) (us ws : List Value), us.length = n → ws.length = ks.length → bindArgs (PySem.W.fnOf x qual params body scope .none kV doc pm an cdv ct) ⟨us, ks.zip ws⟩ = pure (ps.zip (ix.map fun i => (us ++ ws).getD i .none))) :
    Shp K fd ps n ks (ix.map .inl) := by
  obtain ⟨oc, od, dV, kV, doc, pm, an, cdv, ct, osl, rfl, lk, hcd, hD, hK⟩ := F.ex
  rcases hD with ⟨_, rfl⟩ | ⟨e, _⟩
  · refine ⟨fun us ws => if us.length = n ∧ ws.length = ks.length then ix.map fun i => (us ++ ws).getD i .none else [], fun vs zs => if vs.length = n ∧ zs.length = ks.length then arrV (ix.map .inl) (vs ++ zs) else [], ⟨fun s us ws _ l1 l2 => ?_, @fun vs us zs ws r1 r2 => ?_⟩, fun vs zs l1 l2 => if_pos ⟨l1, l2⟩⟩
    · rw [if_pos ⟨l1, l2⟩]
      exact .of_eq (h kV doc pm an cdv ct us ws l1 l2)
    · have e1 := r1.length
      have e2 := r2.length
      by_cases c : us.length = n ∧ ws.length = ks.length
      · rw [if_pos c, if_pos (by rw [e1, e2]; exact c)]
        have r := r1.append r2
        unfold arrV
        rw [List.map_map]
        clear h
        induction ix with
        | nil => exact .nil
        | cons i ix ih =>
          have hix' : i < n + ks.length ∧ ix.all (fun i => decide (i < n + ks.length)) = true := by simpa using hix
          refine .cons ?_ (ih hix'.2)
          have hl : i < (vs ++ zs).length := by rw [List.length_append, e1, e2, c.1, c.2]; exact hix'.1
          obtain ⟨u, hu, ru⟩ := r.get (List.getElem?_eq_getElem hl)
          show RelV ((vs ++ zs).getD i .non) ((us ++ ws).getD i .none)
          rw [List.getD_eq_getElem?_getD, List.getD_eq_getElem?_getD, hu, List.getElem?_eq_getElem hl]
          exact ru
      · rw [if_neg c, if_neg (by rw [e1, e2]; exact c)]
        exact .nil
  · exact absurd rfl e
end Mp
namespace Mp
open PySem PySem.Spec L2
def fn_is_integer : Fn := ⟨3, 3, [.ret (.andV (.op (.isi [.int] false) [.brw 0]) (.andV (.notV (.op (.isi [.bool] false) [.brw 0])) (.chn .le .le (.var 1) (.var 0) (.var 2))))], false⟩
def fn_is_base : Fn := ⟨1, 1, [.ret (.andV (.call 0 [.var 0, .op .neg [.con (.int 6)], .con (.int 6)] [.inl 0, .inl 1, .inl 2]) (.op .gt [.op .abs [.brw 0], .con (.int 1)]))], false⟩
def fn_is_digit : Fn := ⟨1, 1, [.ret (.call 0 [.var 0, .op .neg [.con (.int 9)], .con (.int 9)] [.inl 0, .inl 1, .inl 2])], false⟩
def fn_are_digits : Fn := ⟨1, 2, [.ret (.andV (.op (.isi [.tuple] false) [.brw 0]) (.op .all [.lc .seq [.var 0] (.nm 1) [] (.call 2 [.var 1] [.inl 0]) [1]]))], false⟩
def fn_row_text : Fn := ⟨1, 2, [.ite (.tNot (.tru (.call 3 [.var 0] [.inl 0]))) [.rais 104 [.var 0]] [],
    .ret (.ite (.tb (.op .gt [.op .len [.brw 0], .con (.int 0)])) (.op .join [.con (.str " "), .lc .seq [.var 0] (.nm 1) [] (.op .toStr [.brw 1]) [1]]) (.con (.str ".")))], false⟩
def fn_digit_of : Fn := ⟨1, 2, [.asg (.nm 1) (.op .rmpre [.brw 0, .con (.str "-")]),
    .ite (.tOr (.tb (.op .ne [.op .len [.brw 1], .con (.int 1)])) (.tOr (.tb (.op .notIn [.brw 1, .con (.str "0123456789")])) (.tb (.op .eq [.brw 0, .con (.str "-0")])))) [.ret (.con .non)] [],
    .ret (.ite (.tb (.op .eq [.brw 1, .brw 0])) (.op .index [.con (.str "0123456789"), .brw 1]) (.op .neg [.op .index [.con (.str "0123456789"), .brw 1]]))], false⟩
def fn_row_of : Fn := ⟨1, 3, [.ite (.tb (.op .eq [.brw 0, .con (.str ".")])) [.ret (.tup [])] [],
    .asg (.nm 2) (.lc .seq [.op .split [.brw 0, .con (.str " ")]] (.nm 1) [] (.call 5 [.var 1] [.inl 0]) [1]),
    .ret (.ite (.tb (.op .in_ [.con .non, .brw 2])) (.con .non) (.op .toTuple [.brw 2]))], false⟩
def fn_read_row : Fn := ⟨1, 2, [.asg (.nm 1) (.ite (.tru (.op (.isi [.str] false) [.brw 0])) (.call 6 [.var 0] [.inl 0]) (.con .non)),
    .ite (.tb (.op .isN [.brw 1])) [.rais 105 [.var 0]] [],
    .ret (.var 1)], false⟩
/-- the functions of the package, by their numbers -/
def Lib : Nat → Option Fn
  | 0 => some fn_is_integer
  | 1 => some fn_is_base
  | 2 => some fn_is_digit
  | 3 => some fn_are_digits
  | 4 => some fn_row_text
  | 5 => some fn_digit_of
  | 6 => some fn_row_of
  | 7 => some fn_read_row
  | _ => none
theorem mem_of_lookup {α : Type} {l : List (Str × α)} {x : Str} {v : α} (h : l.lookup x = some v) : (x, v) ∈ l := by
  induction l with
  | nil => cases h
  | cons p l ih =>
    obtain ⟨k, w⟩ := p
    rw [List.lookup_cons] at h
    cases hb : x == k with
    | true => rw [hb] at h; cases h; rw [eq_of_beq hb]; exact List.mem_cons_self
    | false => rw [hb] at h; exact List.mem_cons_of_mem _ (ih h)
end Mp
namespace Mp
open PySem PySem.Spec L2

/-! ### the equations, for simp -/
section
variable {C : Calls} {st : Stt} {Q : PD} {X : PX} {QA : List D → Stt → Prop} {QT : Bool → Stt → Prop} {E : EndD}
theorem wE_con {d : D} : wE C (.con d) st Q X = Q d st := by simp only [wE]
theorem wE_var {i : Nat} : wE C (.var i) st Q X = (match st.e[i]? with
    | some (.shr d) => Q d st
    | some (.own d) => Q d ⟨st.e.set i (.shr d), st.h⟩
    | _ => False) := by first | (simp only [wE]; done) | (simp only [wE]; rfl)
theorem wE_mov {i : Nat} : wE C (.mov i) st Q X = (match st.e[i]? with
    | some (.own d) => Q d ⟨st.e.set i .un, st.h⟩
    | some (.shr d) => scalD d = true ∧ Q d st
    | _ => False) := by first | (simp only [wE]; done) | (simp only [wE]; rfl)
theorem wE_op {o : Op} {es : List Ex} : wE C (.op o es) st Q X = wA C es st (fun ds st1 => opW o (ds.map (view st1.h)) fun d => Q d st1) X := by simp only [wE]
theorem wE_tup {es : List Ex} : wE C (.tup es) st Q X = wL C es st (fun ds st1 => ds.length ≤ 1000 ∧ Q (.tup ds) st1) X := by simp only [wE]
theorem wE_lst {es : List Ex} : wE C (.lst es) st Q X = wL C es st (fun ds st1 => ds.length ≤ 1000 ∧ Q (.lst ds) st1) X := by simp only [wE]
theorem wE_andV {a b : Ex} : wE C (.andV a b) st Q X = wE C a st (fun d st1 => ∃ k, truD (view st1.h d) = some k ∧ if k = true then wE C b st1 Q X else Q d st1) X := by simp only [wE]
theorem wE_orV {a b : Ex} : wE C (.orV a b) st Q X = wE C a st (fun d st1 => ∃ k, truD (view st1.h d) = some k ∧ if k = true then Q d st1 else wE C b st1 Q X) X := by simp only [wE]
theorem wE_notV {a : Ex} : wE C (.notV a) st Q X = wE C a st (fun d st1 => ∃ k, truD (view st1.h d) = some k ∧ Q (.bl (!k)) st1) X := by simp only [wE]
theorem wE_ite {t a b : Ex} : wE C (.ite t a b) st Q X = wT C t st (fun k st1 => if k = true then wE C a st1 Q X else wE C b st1 Q X) X := by simp only [wE]
theorem wE_chn {p q : Op} {a b c : Ex} : wE C (.chn p q a b c) st Q X = wE C a st (fun x st1 => wE C b st1 (fun y st2 => opW p [view st2.h x, view st2.h y] fun r => ∃ k, r = .bl k ∧
      if k = true then wE C c st2 (fun z st3 => opW q [view st3.h y, view st3.h z] fun r => Q r st3) X else Q (.bl false) st2) X) X := by simp only [wE]
theorem wE_call {f : Nat} {es : List Ex} {ar : List (Sum Nat D)} : wE C (.call f es ar) st Q X = wL C es st (fun ds st1 => C f (arr ar ds) st1.h (fun d h => Q d ⟨st1.e, h⟩) (fun c fs h => X c fs ⟨st1.e, h⟩)) X := by simp only [wE]
theorem wE_dct0 : wE C (.dct [] []) st Q X = Q (.dic [] []) st := by simp only [wE]
theorem wE_dct1 {k v : Ex} : wE C (.dct [k] [v]) st Q X = wE C k st (fun a st1 => wE C v st1 (fun b st2 => keyD a = true ∧ Q (.dic [a] [b]) st2) X) X := by simp only [wE]
theorem wE_cel {a : Ex} : wE C (.cel a) st Q X = wE C a st (fun d st1 => match d with
    | .lst ds => Q (.cell st1.h.length) ⟨st1.e, st1.h ++ [.lst ds]⟩
    | .dic ks vs => Q (.cell st1.h.length) ⟨st1.e, st1.h ++ [.dic ks vs]⟩
    | d => scalD d = true ∧ Q d st1) X := by first | (simp only [wE]; done) | (simp only [wE]; rfl)
theorem wE_make {c f : Nat} {fz : Bool} {es : List Ex} {ar : List (Sum Nat D)} : wE C (.make c fz f es ar) st Q X = wL C es st (fun ds st1 => C f (.cell st1.h.length :: arr ar ds) (st1.h ++ [.obj c []])
      (fun d h => d = .non ∧ if fz = true then ∃ fs, h = st1.h ++ [.obj c fs] ∧ cellsLts st1.h.length fs = true ∧ Q (.obj c fs) st1 else Q (.cell st1.h.length) ⟨st1.e, h⟩)
      (fun k fs h => if fz = true then (∃ gs, h = st1.h ++ [.obj c gs]) ∧ cellsLts st1.h.length fs = true ∧ X k fs st1 else X k fs ⟨st1.e, h⟩)) X := by simp only [wE]
theorem wE_meth {k : MK} {c f : Nat} {r : Ex} {es : List Ex} {ar : List (Sum Nat D)} : wE C (.meth k c f (r :: es) ar) st Q X = wE C r st (fun d st1 => (isIn k = false → isObj c (view st1.h d) = true) ∧ wL C es st1 (fun ds st2 => (isIn k = true → isObj c (view st2.h (ds.getD 0 .non)) = true) ∧
      C f (arr ar (d :: ds)) st2.h (fun d h => methQ k d fun r => Q r ⟨st2.e, h⟩) (fun c fs h => X c fs ⟨st2.e, h⟩)) X) X := by simp only [wE]
theorem wE_xfl {i : Nat} {x : Str} : wE C (.xfl i x) st Q X = (match st.e[i]? with
    | some (.exc c fs) => ∃ k d, fldIx c x = some k ∧ fs[k]? = some d ∧ Q d st
    | _ => False) := by first | (simp only [wE]; done) | (simp only [wE]; rfl)
theorem wE_xis {i k : Nat} : wE C (.xis i k) st Q X = (match st.e[i]? with
    | some (.exc c _) => Q (.bl (excSub c k)) st
    | _ => False) := by first | (simp only [wE]; done) | (simp only [wE]; rfl)
theorem wE_pop {i : Nat} {a : Ex} : wE C (.pop i a) st Q X = ((∃ ds, st.e[i]? = some (.own (.lst ds))) ∧ wE C a st (fun d st1 => match d, st1.e[i]? with
    | .int k, some (.own (.lst ds)) => ds.length ≤ sizeLine ∧ ∃ x r, popAt ds k = some (x, r) ∧ Q x ⟨st1.e.set i (.own (.lst r)), st1.h⟩
    | _, _ => False) X) := by first | (simp only [wE]; done) | (simp only [wE]; rfl)
theorem wE_lc {k : ItK} {src : List Ex} {tg : Tg} {ifs : List Ex} {elt : Ex} {own : List Nat} : wE C (.lc k src tg ifs elt own) st Q X = wL C src st (fun ds st1 => ∃ items, itD k ds = some items ∧ items.length ≤ sizeLine ∧
      lcLoop (fun x st2 R => ∃ e', tgS tg x st2.e = some e' ∧ wTs C ifs ⟨e', st2.h⟩ (fun b st3 => if b = true then wE C elt st3 (fun y st4 => R [y] ⟨hide st4.e own, st4.h⟩) (fun _ _ _ => False) else R [] ⟨hide st3.e own, st3.h⟩) (fun _ _ _ => False))
        items [] ⟨hide st1.e own, st1.h⟩ fun out st5 => Q (.lst out) ⟨unhide st1.e st5.e own, st5.h⟩) X := by simp only [wE]
theorem wA_nil : wA C [] st QA X = QA [] st := by simp only [wA]
theorem wA_brw {i : Nat} {es : List Ex} : wA C (.brw i :: es) st QA X = ((rdS st.e i).isSome = true ∧ wA C es st (fun ds st2 => ∃ d, rdS st2.e i = some d ∧ QA (d :: ds) st2) X) := by simp only [wA]
def nbrw : Ex → Bool
  | .brw _ => false
  | _ => true
theorem wA_cons {e : Ex} {es : List Ex} (h : nbrw e = true) : wA C (e :: es) st QA X = wE C e st (fun d st1 => wA C es st1 (fun ds st2 => QA (d :: ds) st2) X) X := by
  cases e <;> first | (simp only [wA]; done) | cases h
theorem wA_con {d : D} {es : List Ex} : wA C (.con d :: es) st QA X = wA C es st (fun ds st2 => QA (d :: ds) st2) X := by rw [wA_cons rfl, wE_con]
theorem wA_op {o : Op} {l es : List Ex} : wA C (.op o l :: es) st QA X = wE C (.op o l) st (fun d st1 => wA C es st1 (fun ds st2 => QA (d :: ds) st2) X) X := wA_cons rfl
theorem wA_tup {l es : List Ex} : wA C (.tup l :: es) st QA X = wE C (.tup l) st (fun d st1 => wA C es st1 (fun ds st2 => QA (d :: ds) st2) X) X := wA_cons rfl
theorem wA_lst {l es : List Ex} : wA C (.lst l :: es) st QA X = wE C (.lst l) st (fun d st1 => wA C es st1 (fun ds st2 => QA (d :: ds) st2) X) X := wA_cons rfl
theorem wA_call {f : Nat} {l es : List Ex} {ar : List (Sum Nat D)} : wA C (.call f l ar :: es) st QA X = wE C (.call f l ar) st (fun d st1 => wA C es st1 (fun ds st2 => QA (d :: ds) st2) X) X := wA_cons rfl
theorem wA_andV {a b : Ex} {es : List Ex} : wA C (.andV a b :: es) st QA X = wE C (.andV a b) st (fun d st1 => wA C es st1 (fun ds st2 => QA (d :: ds) st2) X) X := wA_cons rfl
theorem wA_orV {a b : Ex} {es : List Ex} : wA C (.orV a b :: es) st QA X = wE C (.orV a b) st (fun d st1 => wA C es st1 (fun ds st2 => QA (d :: ds) st2) X) X := wA_cons rfl
theorem wA_notV {a : Ex} {es : List Ex} : wA C (.notV a :: es) st QA X = wE C (.notV a) st (fun d st1 => wA C es st1 (fun ds st2 => QA (d :: ds) st2) X) X := wA_cons rfl
theorem wA_ite {t a b : Ex} {es : List Ex} : wA C (.ite t a b :: es) st QA X = wE C (.ite t a b) st (fun d st1 => wA C es st1 (fun ds st2 => QA (d :: ds) st2) X) X := wA_cons rfl
theorem wA_chn {p q : Op} {a b c : Ex} {es : List Ex} : wA C (.chn p q a b c :: es) st QA X = wE C (.chn p q a b c) st (fun d st1 => wA C es st1 (fun ds st2 => QA (d :: ds) st2) X) X := wA_cons rfl
theorem wA_lc {k : ItK} {src : List Ex} {tg : Tg} {ifs : List Ex} {elt : Ex} {own : List Nat} {es : List Ex} : wA C (.lc k src tg ifs elt own :: es) st QA X = wE C (.lc k src tg ifs elt own) st (fun d st1 => wA C es st1 (fun ds st2 => QA (d :: ds) st2) X) X := wA_cons rfl
theorem wL_nil : wL C [] st QA X = QA [] st := by simp only [wL]
theorem wL_cons {e : Ex} {es : List Ex} : wL C (e :: es) st QA X = wE C e st (fun d st1 => wL C es st1 (fun ds st2 => QA (d :: ds) st2) X) X := by simp only [wL]
theorem wT_and {a b : Ex} : wT C (.tAnd a b) st QT X = wT C a st (fun k st1 => if k = true then wT C b st1 QT X else QT false st1) X := by simp only [wT]
theorem wT_or {a b : Ex} : wT C (.tOr a b) st QT X = wT C a st (fun k st1 => if k = true then QT true st1 else wT C b st1 QT X) X := by simp only [wT]
theorem wT_not {a : Ex} : wT C (.tNot a) st QT X = wT C a st (fun k st1 => QT (!k) st1) X := by simp only [wT]
theorem wT_tru {a : Ex} : wT C (.tru a) st QT X = wE C a st (fun d st1 => ∃ k, truD (view st1.h d) = some k ∧ QT k st1) X := by simp only [wT]
theorem wT_tb {a : Ex} : wT C (.tb a) st QT X = wE C a st (fun d st1 => ∃ k, d = .bl k ∧ QT k st1) X := by simp only [wT]
theorem wTs_nil : wTs C [] st QT X = QT true st := by simp only [wTs]
theorem wTs_cons {t : Ex} {ts : List Ex} : wTs C (t :: ts) st QT X = wT C t st (fun k st1 => if k = true then wTs C ts st1 QT X else QT false st1) X := by simp only [wTs]
theorem wS_pass : wS C .pass st E = E.nx st := by simp only [wS]
theorem wS_brk : wS C .brk st E = E.bk st := by simp only [wS]
theorem wS_cnt : wS C .cnt st E = E.ct st := by simp only [wS]
theorem wS_ret {a : Ex} : wS C (.ret a) st E = wE C a st E.rt E.ex := by simp only [wS]
theorem wS_exp {a : Ex} : wS C (.exp a) st E = wE C a st (fun _ st1 => E.nx st1) E.ex := by simp only [wS]
theorem wS_asg {tg : Tg} {a : Ex} : wS C (.asg tg a) st E = wE C a st (fun d st1 => ∃ e', tgS tg d st1.e = some e' ∧ E.nx ⟨e', st1.h⟩) E.ex := by simp only [wS]
theorem wS_asgO {i : Nat} {a : Ex} : wS C (.asgO i a) st E = wE C a st (fun d st1 => E.nx ⟨st1.e.set i (ownS d), st1.h⟩) E.ex := by simp only [wS]
theorem wS_setI {i : Nat} {k a : Ex} : wS C (.setI i k a) st E = wE C a st (fun d st1 => (rdS st1.e i).isSome = true ∧ wE C k st1 (fun z st2 => match z with
    | .int j => ∃ ds m, lstAt st2 i = some ds ∧ ixN ds.length j = some m ∧ E.nx (putAt st2 i (ds.set m d))
    | _ => False) E.ex) E.ex := by first | (simp only [wS]; done) | (simp only [wS]; rfl)
theorem wS_app {i : Nat} {a : Ex} : wS C (.app i a) st E = ((lstAt st i).isSome = true ∧ wE C a st (fun d st1 => ∃ ds, lstAt st1 i = some ds ∧ ds.length < sizeLine ∧ E.nx (putAt st1 i (ds ++ [d]))) E.ex) := by simp only [wS]
theorem wS_ite {t : Ex} {a b : List Sm} : wS C (.ite t a b) st E = wT C t st (fun k st1 => if k = true then wSs C a st1 E else wSs C b st1 E) E.ex := by simp only [wS]
theorem wS_for {k : ItK} {src : List Ex} {tg : Tg} {body : List Sm} : wS C (.for_ k src tg body) st E = wL C src st (fun ds st1 => ∃ items, itD k ds = some items ∧ items.length ≤ sizeLine ∧
      forLoop (fun x st2 R => ∃ e', tgS tg x st2.e = some e' ∧ wSs C body ⟨e', st2.h⟩ { nx := R, rt := E.rt, bk := E.nx, ct := R, ex := E.ex }) items st1 E.nx) E.ex := by simp only [wS]
theorem wS_rais {c : Nat} {es : List Ex} : wS C (.rais c es) st E = wL C es st (fun ds st1 => ds.length = (fldsOf c).length ∧ E.ex c ds st1) E.ex := by simp only [wS]
theorem wS_try {body : List Sm} {cs : List (Nat × Nat)} {suites : List (List Sm)} : wS C (.tryA body cs suites) st E = wSs C body st { nx := E.nx, rt := E.rt, bk := E.bk, ct := E.ct, ex := fun c fs st1 => wHs C cs suites c fs st1 E } := by simp only [wS]
theorem wS_setF {i : Nat} {x : Str} {a : Ex} : wS C (.setF i x a) st E = wE C a st (fun d st1 => ∃ l c fs fs', objAt st1 i = some (l, c, fs) ∧ putFl c x d fs = some fs' ∧ E.nx ⟨st1.e, st1.h.set l (.obj c fs')⟩) E.ex := by simp only [wS]
theorem wS_par {is : List Nat} {es : List Ex} : wS C (.par is es) st E = wL C es st (fun ds st1 => ∃ e', setSs is ds st1.e = some e' ∧ E.nx ⟨e', st1.h⟩) E.ex := by simp only [wS]
theorem wHs_cons {k i c : Nat} {cs : List (Nat × Nat)} {suite : List Sm} {suites : List (List Sm)} {fs : List D} : wHs C ((k, i) :: cs) (suite :: suites) c fs st E = if excSub c k = true then wSs C suite ⟨st.e.set i (.exc c fs), st.h⟩
      { nx := fun st2 => noX (st2.e.set i .un) = true ∧ E.nx ⟨st2.e.set i .un, st2.h⟩, rt := fun d st2 => noX (st2.e.set i .un) = true ∧ E.rt d ⟨st2.e.set i .un, st2.h⟩,
        bk := fun st2 => noX (st2.e.set i .un) = true ∧ E.bk ⟨st2.e.set i .un, st2.h⟩, ct := fun st2 => noX (st2.e.set i .un) = true ∧ E.ct ⟨st2.e.set i .un, st2.h⟩, ex := fun _ _ _ => False } else wHs C cs suites c fs st E := by simp only [wHs]
theorem wHs_nil {c : Nat} {fs : List D} : wHs C [] [] c fs st E = E.ex c fs st := by simp only [wHs]
theorem wSs_nil : wSs C [] st E = E.nx st := by simp only [wSs]
theorem wSs_cons {s : Sm} {ss : List Sm} : wSs C (s :: ss) st E = wS C s st { nx := fun st1 => wSs C ss st1 E, rt := E.rt, bk := E.bk, ct := E.ct, ex := E.ex } := by simp only [wSs]
end
/-! ### values -/
section
variable {h : List CO}
@[simp] theorem view_non : view h .non = .non := rfl
@[simp] theorem view_bl {b : Bool} : view h (.bl b) = .bl b := rfl
@[simp] theorem view_int {i : Int} : view h (.int i) = .int i := rfl
@[simp] theorem view_str {x : Str} : view h (.str x) = .str x := rfl
@[simp] theorem view_tup {ds : List D} : view h (.tup ds) = .tup ds := rfl
@[simp] theorem view_lst {ds : List D} : view h (.lst ds) = .lst ds := rfl
@[simp] theorem view_dic {ks vs : List D} : view h (.dic ks vs) = .dic ks vs := rfl
@[simp] theorem view_scr {ds : List D} : view h (.scr ds) = .scr ds := rfl
theorem view_cell {l : Nat} {ds : List D} (e : h[l]? = some (.lst ds)) : view h (.cell l) = .lst ds := by
  show (match h[l]? with | some (.lst ds) => D.lst ds | some (.dic ks vs) => .dic ks vs | some (.obj c ds) => .obj c ds | _ => .cell l) = _
  rw [e]
theorem view_ok {d : D} (e : tyOk d = true) : view h d = d := by cases d <;> first | rfl | cases e
@[simp] theorem truD_bl {b : Bool} : truD (.bl b) = some b := rfl
@[simp] theorem truD_int {i : Int} : truD (.int i) = some (i != 0) := rfl
@[simp] theorem truD_non : truD .non = some false := rfl
@[simp] theorem truD_lst {ds : List D} : truD (.lst ds) = some (!ds.isEmpty) := rfl
@[simp] theorem truD_tup {ds : List D} : truD (.tup ds) = some (!ds.isEmpty) := rfl
variable {Q : D → Prop} {i j : Int} {a b : D} {ds : List D}
@[simp] theorem reprD_bl {k : Bool} : reprD (.bl k) = some (if k then ("True" : Str) else "False") := by cases k <;> rfl
@[simp] theorem seqD_lst : seqD (.lst ds) = some ds := rfl
@[simp] theorem seqD_tup : seqD (.tup ds) = some ds := rfl
@[simp] theorem seqD_scr : seqD (.scr ds) = some ds := rfl
@[simp] theorem tgS_nm {e : List Sl} {k : Nat} : tgS (.nm k) a e = some (e.set k (.shr a)) := by simp only [tgS]
end

/-! ### calls -/
theorem CC_of {P : Nat → Option Fn} {n f : Nat} {fn : Fn} {ds : List D} {h : List CO} {Q : D → List CO → Prop} {X : Nat → List D → List CO → Prop} (hf : P f = some fn) (hn : 0 < n) (hl : ds.length = fn.np)
    (hw : wSs (CC P (n - 1)) fn.body ⟨startE fn ds, h⟩ { nx := fun st => Q .non st.h, rt := fun d st => Q d st.h, bk := fun _ => False, ct := fun _ => False, ex := fun c fs st => X c fs st.h }) : CC P n f ds h Q X := by
  cases n with
  | zero => cases hn
  | succ n =>
    show (match P f with | some fn => _ | none => False)
    rw [hf]
    exact ⟨hl, hw⟩
/-! ### loops; the turn is monotone -/
def MonF (turn : D → Stt → (Stt → Prop) → Prop) : Prop := ∀ x st (R R' : Stt → Prop), (∀ st, R st → R' st) → turn x st R → turn x st R'
theorem for_inv {turn : D → Stt → (Stt → Prop) → Prop} (I : Nat → Stt → Prop) {Q : Stt → Prop} (hm : MonF turn) : ∀ (items : List D) (k : Nat) (st : Stt), I k st → (∀ i x st, items[i]? = some x → I (k + i) st → turn x st (I (k + i + 1))) → (∀ st, I (k + items.length) st → Q st) → forLoop turn items st Q
  | [], k, st, h0, _, he => he st h0
  | x :: xs, k, st, h0, hs, he => by
    show turn x st fun st1 => forLoop turn xs st1 Q
    refine hm x st (I (k + 1)) _ (fun st1 h1 => for_inv I hm xs (k + 1) st1 h1 (fun i y st2 e h2 => ?_) fun st2 h2 => he st2 ?_) (hs 0 x st rfl h0)
    · have e1 : k + 1 + i = k + (i + 1) := by omega
      rw [e1] at h2 ⊢
      exact hs (i + 1) y st2 (by simpa using e) h2
    · rw [List.length_cons]
      have e1 : k + 1 + xs.length = k + (xs.length + 1) := by omega
      rw [← e1]
      exact h2
def MonL (turn : D → Stt → (List D → Stt → Prop) → Prop) : Prop := ∀ x st (R R' : List D → Stt → Prop), (∀ ds st, R ds st → R' ds st) → turn x st R → turn x st R'
theorem lc_inv {turn : D → Stt → (List D → Stt → Prop) → Prop} (I : Nat → List D → Stt → Prop) {Q : List D → Stt → Prop} (hm : MonL turn) : ∀ (items : List D) (k : Nat) (acc : List D) (st : Stt), I k acc st → (∀ i x acc st, items[i]? = some x → I (k + i) acc st → turn x st fun r st1 => I (k + i + 1) (acc ++ r) st1) → (∀ acc st, I (k + items.length) acc st → Q acc st) → lcLoop turn items acc st Q
  | [], k, acc, st, h0, _, he => he acc st h0
  | x :: xs, k, acc, st, h0, hs, he => by
    show turn x st fun r st1 => lcLoop turn xs (acc ++ r) st1 Q
    refine hm x st (fun r st1 => I (k + 1) (acc ++ r) st1) _ (fun r st1 h1 => lc_inv I hm xs (k + 1) (acc ++ r) st1 h1 (fun i y acc2 st2 e h2 => ?_) fun acc2 st2 h2 => he acc2 st2 ?_) (hs 0 x acc st rfl h0)
    · have e1 : k + 1 + i = k + (i + 1) := by omega
      rw [e1] at h2 ⊢
      exact hs (i + 1) y acc2 st2 (by simpa using e) h2
    · rw [List.length_cons]
      have e1 : k + 1 + xs.length = k + (xs.length + 1) := by omega
      rw [← e1]
      exact h2
/-! ### monotone -/
def MonC (C : Calls) : Prop := ∀ f ds h (Q Q' : D → List CO → Prop) (X X' : Nat → List D → List CO → Prop), (∀ d h, Q d h → Q' d h) → (∀ c fs h, X c fs h → X' c fs h) → C f ds h Q X → C f ds h Q' X'
theorem int1_mono {ds : List D} {k k' : Int → Prop} (i : ∀ a, k a → k' a) (h : int1 ds k) : int1 ds k' := by
  unfold int1 at h ⊢; split at h
  · exact i _ h
  · exact h
theorem int2_mono {ds : List D} {k k' : Int → Int → Prop} (i : ∀ a b, k a b → k' a b) (h : int2 ds k) : int2 ds k' := by
  unfold int2 at h ⊢; split at h
  · exact i _ _ h
  · exact h
theorem any1_mono {ds : List D} {k k' : D → Prop} (i : ∀ a, k a → k' a) (h : any1 ds k) : any1 ds k' := by
  unfold any1 at h ⊢; split at h
  · exact i _ h
  · exact h
theorem any2_mono {ds : List D} {k k' : D → D → Prop} (i : ∀ a b, k a b → k' a b) (h : any2 ds k) : any2 ds k' := by
  unfold any2 at h ⊢; split at h
  · exact i _ _ h
  · exact h
theorem mulW_mono {ds : List D} {Q Q' : D → Prop} (i : ∀ d, Q d → Q' d) (h : mulW ds Q) : mulW ds Q' := by
  unfold mulW at h ⊢
  split at h <;> first | exact ⟨h.1, i _ h.2⟩ | exact h.elim
theorem addW_mono {ds : List D} {Q Q' : D → Prop} (i : ∀ d, Q d → Q' d) (h : addW ds Q) : addW ds Q' := by
  unfold addW at h ⊢
  split at h <;> first | exact i _ h | exact ⟨h.1, i _ h.2⟩ | exact h.elim
theorem inW_mono {neg : Bool} {ds : List D} {Q Q' : D → Prop} (i : ∀ d, Q d → Q' d) (h : inW neg ds Q) : inW neg ds Q' := by
  unfold inW at h ⊢
  split at h <;> first | exact i _ h | exact ⟨h.1, i _ h.2⟩ | exact h.elim
theorem itemW_mono {ds : List D} {Q Q' : D → Prop} (i : ∀ d, Q d → Q' d) (h : itemW ds Q) : itemW ds Q' := by
  unfold itemW at h ⊢
  split at h
  · obtain ⟨c, a, b, q⟩ := h
    exact ⟨c, a, b, i _ q⟩
  · obtain ⟨es, d, a, b, c⟩ := h
    exact ⟨es, d, a, b, i _ c⟩
  · exact h.elim
theorem eqLW_mono {neg : Bool} {ds : List D} {Q Q' : D → Prop} (i : ∀ d, Q d → Q' d) (h : eqLW neg ds Q) : eqLW neg ds Q' := by
  unfold eqLW at h ⊢
  split at h
  · obtain ⟨k, a, b⟩ := h
    exact ⟨k, a, i _ b⟩
  · exact h.elim
theorem cutW_mono {a : D} {lo hi : Option Int} {Q Q' : D → Prop} (i : ∀ d, Q d → Q' d) (h : cutW a lo hi Q) : cutW a lo hi Q' := by
  unfold cutW at h ⊢
  split at h <;> first | exact i _ h | exact ⟨h.1, i _ h.2⟩ | exact h.elim
theorem slW_mono {lo hi : Bool} {ds : List D} {Q Q' : D → Prop} (i : ∀ d, Q d → Q' d) (h : slW lo hi ds Q) : slW lo hi ds Q' := by
  unfold slW at h ⊢
  split at h <;> first | exact cutW_mono i h | exact h.elim
theorem str2_mono {ds : List D} {k k' : Str → Str → Prop} (i : ∀ a b, k a b → k' a b) (h : str2 ds k) : str2 ds k' := by
  unfold str2 at h ⊢; split at h
  · exact i _ _ h
  · exact h
theorem isBW_mono {b neg : Bool} {a : D} {Q Q' : D → Prop} (i : ∀ d, Q d → Q' d) (h : isBW b neg a Q) : isBW b neg a Q' := by
  unfold isBW at h ⊢
  split at h <;> first | exact i _ h | exact h.elim
theorem opW_mono {o : Op} {ds : List D} {Q Q' : D → Prop} (i : ∀ d, Q d → Q' d) (h : opW o ds Q) : opW o ds Q' := by
  cases o with
  | add => exact addW_mono i h
  | sub => exact int2_mono (fun _ _ => i _) h
  | mul => exact mulW_mono i h
  | fdiv => exact int2_mono (fun _ _ z => ⟨z.1, i _ z.2⟩) h
  | mod => exact int2_mono (fun _ _ z => ⟨z.1, i _ z.2⟩) h
  | pow => exact int2_mono (fun _ _ z => ⟨z.1, i _ z.2⟩) h
  | neg => exact int1_mono (fun _ => i _) h
  | eq => exact any2_mono (fun _ _ z => ⟨z.1, i _ z.2⟩) h
  | ne => exact any2_mono (fun _ _ z => ⟨z.1, i _ z.2⟩) h
  | eqL => exact eqLW_mono i h
  | neL => exact eqLW_mono i h
  | lt => exact int2_mono (fun _ _ => i _) h
  | le => exact int2_mono (fun _ _ => i _) h
  | gt => exact int2_mono (fun _ _ => i _) h
  | ge => exact int2_mono (fun _ _ => i _) h
  | isN => exact any1_mono (fun _ => i _) h
  | isNotN => exact any1_mono (fun _ => i _) h
  | in_ => exact inW_mono i h
  | notIn => exact inW_mono i h
  | len => refine any1_mono (fun a z => ?_) h
           unfold lenW at z ⊢
           split at z <;> first | exact i _ z | exact ⟨z.1, i _ z.2⟩ | exact z.elim
  | abs => exact int1_mono (fun _ => i _) h
  | max2 => exact int2_mono (fun _ _ => i _) h
  | min2 => exact int2_mono (fun _ _ => i _) h
  | toInt => refine any1_mono (fun a z => ?_) h
             unfold toIntW at z ⊢
             split at z <;> first | exact i _ z | exact z.elim
  | toStr => exact int1_mono (fun _ z => ⟨z.1, i _ z.2⟩) h
  | repr => exact any1_mono (fun _ ⟨x, e, z⟩ => ⟨x, e, i _ z⟩) h
  | toList => refine any1_mono (fun a z => ?_) h
              unfold toListW at z ⊢
              split at z
              · exact ⟨z.1, i _ z.2⟩
              · obtain ⟨x, e, z⟩ := z
                exact ⟨x, e, i _ z⟩
  | toTuple => exact any1_mono (fun _ ⟨x, e, z⟩ => ⟨x, e, i _ z⟩) h
  | item => exact itemW_mono i h
  | isi ts t => exact any1_mono (fun _ z => ⟨z.1, i _ z.2⟩) h
  | sl lo hi => exact slW_mono i h
  | rev => refine any1_mono (fun a z => ?_) h
           unfold revW at z ⊢
           split at z <;> first | exact i _ z | exact z.elim
  | join => have h' : joinW ds Q := h
            show joinW ds Q'
            unfold joinW at h' ⊢
            split at h'
            · obtain ⟨es, ys, a, b, c, q⟩ := h'
              exact ⟨es, ys, a, b, c, i _ q⟩
            · exact h'.elim
  | split => exact str2_mono (fun _ _ z => ⟨z.1, i _ z.2⟩) h
  | rmpre => exact str2_mono (fun _ _ z => ⟨z.1, i _ z.2⟩) h
  | starts => exact str2_mono (fun _ _ => i _) h
  | index => exact str2_mono (fun _ _ ⟨k, e, z⟩ => ⟨k, e, i _ z⟩) h
  | find => exact str2_mono (fun _ _ => i _) h
  | fld x => refine any1_mono (fun a z => ?_) h
             unfold fldW at z ⊢
             split at z
             · obtain ⟨k, v, a, b, q⟩ := z
               exact ⟨k, v, a, b, i _ q⟩
             · exact z.elim
  | all => exact any1_mono (fun _ ⟨es, bs, a, b, q⟩ => ⟨es, bs, a, b, i _ q⟩) h
  | any => exact any1_mono (fun _ ⟨es, bs, a, b, q⟩ => ⟨es, bs, a, b, i _ q⟩) h
  | sum => exact any1_mono (fun _ ⟨es, bs, a, b, q⟩ => ⟨es, bs, a, b, i _ q⟩) h
  | maxL => exact any1_mono (fun _ ⟨es, bs, a, b, c, q⟩ => ⟨es, bs, a, b, c, i _ q⟩) h
  | minL => exact any1_mono (fun _ ⟨es, bs, a, b, c, q⟩ => ⟨es, bs, a, b, c, i _ q⟩) h
  | isT => exact any1_mono (fun a z => isBW_mono i z) h
  | isF => exact any1_mono (fun a z => isBW_mono i z) h
  | isNT => exact any1_mono (fun a z => isBW_mono i z) h
  | isNF => exact any1_mono (fun a z => isBW_mono i z) h
  | rng1 => exact int1_mono (fun _ z => ⟨z.1, i _ z.2⟩) h
  | rng2 => exact int2_mono (fun _ _ z => ⟨z.1, i _ z.2⟩) h
  | sorted => exact h.elim
  | diff => exact h.elim
  | fstr => exact h.elim
theorem lcLoop_mono {turn : D → Stt → (List D → Stt → Prop) → Prop} (hm : MonL turn) : ∀ {items acc : List D} {st : Stt} {Q Q' : List D → Stt → Prop}, (∀ ds st, Q ds st → Q' ds st) → lcLoop turn items acc st Q → lcLoop turn items acc st Q'
  | [], _, _, _, _, i, h => i _ _ h
  | x :: xs, acc, st, Q, Q', i, h => by
    show turn x st fun r st1 => lcLoop turn xs (acc ++ r) st1 Q'
    exact hm x st _ _ (fun r st1 z => lcLoop_mono hm i z) h
theorem forLoop_mono {turn : D → Stt → (Stt → Prop) → Prop} (hm : MonF turn) : ∀ {items : List D} {st : Stt} {Q Q' : Stt → Prop}, (∀ st, Q st → Q' st) → forLoop turn items st Q → forLoop turn items st Q'
  | [], _, _, _, i, h => i _ h
  | x :: xs, st, Q, Q', i, h => by
    show turn x st fun st1 => forLoop turn xs st1 Q'
    exact hm x st _ _ (fun st1 z => forLoop_mono hm i z) h
end Mp
namespace Mp
open PySem PySem.Spec L2
mutual
theorem wE_mono {C : Calls} (hC : MonC C) : ∀ (e : Ex) {st : Stt} {Q Q' : PD} {X X' : PX}, (∀ d st, Q d st → Q' d st) → (∀ c fs st, X c fs st → X' c fs st) → wE C e st Q X → wE C e st Q' X'
  | .con d, _, _, _, _, _, i, _, h => by rw [wE_con] at h ⊢; exact i _ _ h
  | .var k, _, _, _, _, _, i, _, h => by
    rw [wE_var] at h ⊢
    split at h
    · exact i _ _ h
    · exact i _ _ h
    · exact h.elim
  | .brw k, _, _, _, _, _, i, _, h => by simp only [wE] at h
  | .mov k, _, _, _, _, _, i, _, h => by
    rw [wE_mov] at h ⊢
    split at h
    · exact i _ _ h
    · exact ⟨h.1, i _ _ h.2⟩
    · exact h.elim
  | .op o es, _, _, _, _, _, i, ix, h => by
    rw [wE_op] at h ⊢
    exact wA_mono hC es (fun ds st z => opW_mono (fun d => i d st) z) ix h
  | .tup es, _, _, _, _, _, i, ix, h => by
    rw [wE_tup] at h ⊢
    exact wL_mono hC es (fun ds st z => ⟨z.1, i _ _ z.2⟩) ix h
  | .lst es, _, _, _, _, _, i, ix, h => by
    rw [wE_lst] at h ⊢
    exact wL_mono hC es (fun ds st z => ⟨z.1, i _ _ z.2⟩) ix h
  | .andV a b, _, _, _, _, _, i, ix, h => by
    rw [wE_andV] at h ⊢
    refine wE_mono hC a (fun d st ⟨k, e, z⟩ => ⟨k, e, ?_⟩) ix h
    split at z
    · rename_i hk; rw [if_pos hk]; exact wE_mono hC b i ix z
    · rename_i hk; rw [if_neg hk]; exact i _ _ z
  | .orV a b, _, _, _, _, _, i, ix, h => by
    rw [wE_orV] at h ⊢
    refine wE_mono hC a (fun d st ⟨k, e, z⟩ => ⟨k, e, ?_⟩) ix h
    split at z
    · rename_i hk; rw [if_pos hk]; exact i _ _ z
    · rename_i hk; rw [if_neg hk]; exact wE_mono hC b i ix z
  | .notV a, _, _, _, _, _, i, ix, h => by
    rw [wE_notV] at h ⊢
    exact wE_mono hC a (fun d st ⟨k, e, z⟩ => ⟨k, e, i _ _ z⟩) ix h
  | .tAnd a b, _, _, _, _, _, i, _, h => by simp only [wE] at h
  | .tOr a b, _, _, _, _, _, i, _, h => by simp only [wE] at h
  | .tNot a, _, _, _, _, _, i, _, h => by simp only [wE] at h
  | .tru a, _, _, _, _, _, i, _, h => by simp only [wE] at h
  | .tb a, _, _, _, _, _, i, _, h => by simp only [wE] at h
  | .ite t a b, _, _, _, _, _, i, ix, h => by
    rw [wE_ite] at h ⊢
    refine wT_mono hC t (fun k st z => ?_) ix h
    split at z
    · rename_i hk; rw [if_pos hk]; exact wE_mono hC a i ix z
    · rename_i hk; rw [if_neg hk]; exact wE_mono hC b i ix z
  | .chn p q a b c, _, _, _, _, _, i, ix, h => by
    rw [wE_chn] at h ⊢
    refine wE_mono hC a (fun x st1 z => wE_mono hC b (fun y st2 z => opW_mono (fun r ⟨k, e, z⟩ => ⟨k, e, ?_⟩) z) ix z) ix h
    split at z
    · rename_i hk; rw [if_pos hk]; exact wE_mono hC c (fun w st3 z => opW_mono (fun r => i r st3) z) ix z
    · rename_i hk; rw [if_neg hk]; exact i _ _ z
  | .call f es ar, _, _, _, _, _, i, ix, h => by
    rw [wE_call] at h ⊢
    exact wL_mono hC es (fun ds st z => hC _ _ _ _ _ _ _ (fun d h => i d _) (fun c fs h => ix c fs _) z) ix h
  | .dct ks vs, st, Q, Q', X, X', i, ix, h => by
    match ks, vs, h with
    | [], [], h => rw [wE_dct0] at h ⊢; exact i _ _ h
    | [k], [v], h =>
      rw [wE_dct1] at h ⊢
      exact wE_mono hC k (fun a st1 z => wE_mono hC v (fun b st2 z => ⟨z.1, i _ _ z.2⟩) ix z) ix h
    | [], _ :: _, h => simp only [wE] at h
    | _ :: _, [], h => simp only [wE] at h
    | [_], _ :: _ :: _, h => simp only [wE] at h
    | _ :: _ :: _, _ :: _, h => simp only [wE] at h
  | .cel a, _, _, _, _, _, i, ix, h => by
    rw [wE_cel] at h ⊢
    refine wE_mono hC a (fun d st z => ?_) ix h
    split at z
    · exact i _ _ z
    · exact i _ _ z
    · exact ⟨z.1, i _ _ z.2⟩
  | .make c fz f es ar, _, _, _, _, _, i, ix, h => by
    rw [wE_make] at h ⊢
    cases fz with
    | true => exact wL_mono hC es (fun ds st z => hC _ _ _ _ _ _ _ (fun d h ⟨z1, fs, a, b, q⟩ => ⟨z1, fs, a, b, i _ _ q⟩) (fun c fs h ⟨z1, z2, z3⟩ => ⟨z1, z2, ix _ _ _ z3⟩) z) ix h
    | false => exact wL_mono hC es (fun ds st z => hC _ _ _ _ _ _ _ (fun d h ⟨z1, q⟩ => ⟨z1, i _ _ q⟩) (fun c fs h z => ix _ _ _ z) z) ix h
  | .meth k c f es ar, _, _, _, _, _, i, ix, h => by
    match es, h with
    | [], h => simp only [wE] at h
    | r :: es, h =>
      rw [wE_meth] at h ⊢
      refine wE_mono hC r (fun d st1 ⟨z1, z2⟩ => ⟨z1, wL_mono hC es (fun ds st2 ⟨z3, z4⟩ => ⟨z3, hC _ _ _ _ _ _ _ (fun d h z => ?_) (fun c fs h z => ix _ _ _ z) z4⟩) ix z2⟩) ix h
      cases k <;> first | exact i _ _ z | (obtain ⟨n, a, b, q⟩ := z; exact ⟨n, a, b, i _ _ q⟩) | (obtain ⟨n, a, q⟩ := z; exact ⟨n, a, i _ _ q⟩)
  | .xfl k x, _, _, _, _, _, i, ix, h => by
    rw [wE_xfl] at h ⊢
    split at h
    · obtain ⟨k, d, a, b, q⟩ := h; exact ⟨k, d, a, b, i _ _ q⟩
    · exact h.elim
  | .xis k x, _, _, _, _, _, i, ix, h => by
    rw [wE_xis] at h ⊢
    split at h
    · exact i _ _ h
    · exact h.elim
  | .pop k a, _, _, _, _, _, i, ix, h => by
    rw [wE_pop] at h ⊢
    refine ⟨h.1, wE_mono hC a (fun d st z => ?_) ix h.2⟩
    split at z
    · rename_i e3
      obtain ⟨z1, x, r, z2, z3⟩ := z
      exact ⟨z1, x, r, z2, i _ _ z3⟩
    · exact z.elim
  | .lc k src tg ifs elt own, _, _, _, _, _, i, ix, h => by
    rw [wE_lc] at h ⊢
    refine wL_mono hC src (fun ds st ⟨items, e, l, z⟩ => ⟨items, e, l, lcLoop_mono ?_ (fun out st => i _ _) z⟩) ix h
    intro x st2 R R' ir ⟨e', he, z⟩
    refine ⟨e', he, wTs_mono hC ifs (fun b st3 z => ?_) (fun _ _ _ z => z) z⟩
    split at z
    · rename_i hk; rw [if_pos hk]; exact wE_mono hC elt (fun y st4 => ir _ _) (fun _ _ _ z => z) z
    · rename_i hk; rw [if_neg hk]; exact ir _ _ z
theorem wA_mono {C : Calls} (hC : MonC C) : ∀ (es : List Ex) {st : Stt} {Q Q' : List D → Stt → Prop} {X X' : PX}, (∀ ds st, Q ds st → Q' ds st) → (∀ c fs st, X c fs st → X' c fs st) → wA C es st Q X → wA C es st Q' X'
  | [], _, _, _, _, _, i, _, h => by rw [wA_nil] at h ⊢; exact i _ _ h
  | e :: es, st, Q, Q', X, X', i, ix, h => by
    by_cases hb : nbrw e = true
    · rw [wA_cons hb] at h ⊢
      exact wE_mono hC e (fun d st1 z => wA_mono hC es (fun ds st2 => i _ _) ix z) ix h
    · cases e with
      | brw k =>
        rw [wA_brw] at h ⊢
        exact ⟨h.1, wA_mono hC es (fun ds st2 ⟨d, e, z⟩ => ⟨d, e, i _ _ z⟩) ix h.2⟩
      | _ => exact absurd rfl hb
theorem wL_mono {C : Calls} (hC : MonC C) : ∀ (es : List Ex) {st : Stt} {Q Q' : List D → Stt → Prop} {X X' : PX}, (∀ ds st, Q ds st → Q' ds st) → (∀ c fs st, X c fs st → X' c fs st) → wL C es st Q X → wL C es st Q' X'
  | [], _, _, _, _, _, i, _, h => by rw [wL_nil] at h ⊢; exact i _ _ h
  | e :: es, st, Q, Q', X, X', i, ix, h => by
    rw [wL_cons] at h ⊢
    exact wE_mono hC e (fun d st1 z => wL_mono hC es (fun ds st2 => i _ _) ix z) ix h
theorem wT_mono {C : Calls} (hC : MonC C) : ∀ (e : Ex) {st : Stt} {Q Q' : Bool → Stt → Prop} {X X' : PX}, (∀ b st, Q b st → Q' b st) → (∀ c fs st, X c fs st → X' c fs st) → wT C e st Q X → wT C e st Q' X'
  | .tAnd a b, _, _, _, _, _, i, ix, h => by
    rw [wT_and] at h ⊢
    refine wT_mono hC a (fun k st z => ?_) ix h
    split at z
    · rename_i hk; rw [if_pos hk]; exact wT_mono hC b i ix z
    · rename_i hk; rw [if_neg hk]; exact i _ _ z
  | .tOr a b, _, _, _, _, _, i, ix, h => by
    rw [wT_or] at h ⊢
    refine wT_mono hC a (fun k st z => ?_) ix h
    split at z
    · rename_i hk; rw [if_pos hk]; exact i _ _ z
    · rename_i hk; rw [if_neg hk]; exact wT_mono hC b i ix z
  | .tNot a, _, _, _, _, _, i, ix, h => by
    rw [wT_not] at h ⊢
    exact wT_mono hC a (fun k st => i _ _) ix h
  | .tru a, _, _, _, _, _, i, ix, h => by
    rw [wT_tru] at h ⊢
    exact wE_mono hC a (fun d st ⟨k, e, z⟩ => ⟨k, e, i _ _ z⟩) ix h
  | .tb a, _, _, _, _, _, i, ix, h => by
    rw [wT_tb] at h ⊢
    exact wE_mono hC a (fun d st ⟨k, e, z⟩ => ⟨k, e, i _ _ z⟩) ix h
  | .con _, _, _, _, _, _, _, _, h => by simp only [wT] at h
  | .var _, _, _, _, _, _, _, _, h => by simp only [wT] at h
  | .brw _, _, _, _, _, _, _, _, h => by simp only [wT] at h
  | .mov _, _, _, _, _, _, _, _, h => by simp only [wT] at h
  | .op _ _, _, _, _, _, _, _, _, h => by simp only [wT] at h
  | .tup _, _, _, _, _, _, _, _, h => by simp only [wT] at h
  | .lst _, _, _, _, _, _, _, _, h => by simp only [wT] at h
  | .dct _ _, _, _, _, _, _, _, _, h => by simp only [wT] at h
  | .andV _ _, _, _, _, _, _, _, _, h => by simp only [wT] at h
  | .orV _ _, _, _, _, _, _, _, _, h => by simp only [wT] at h
  | .notV _, _, _, _, _, _, _, _, h => by simp only [wT] at h
  | .ite _ _ _, _, _, _, _, _, _, _, h => by simp only [wT] at h
  | .chn _ _ _ _ _, _, _, _, _, _, _, _, h => by simp only [wT] at h
  | .call _ _ _, _, _, _, _, _, _, _, h => by simp only [wT] at h
  | .cel _, _, _, _, _, _, _, _, h => by simp only [wT] at h
  | .pop _ _, _, _, _, _, _, _, _, h => by simp only [wT] at h
  | .lc _ _ _ _ _ _, _, _, _, _, _, _, _, h => by simp only [wT] at h
  | .make _ _ _ _ _, _, _, _, _, _, _, _, h => by simp only [wT] at h
  | .meth _ _ _ _ _, _, _, _, _, _, _, _, h => by simp only [wT] at h
  | .xfl _ _, _, _, _, _, _, _, _, h => by simp only [wT] at h
  | .xis _ _, _, _, _, _, _, _, _, h => by simp only [wT] at h
theorem wTs_mono {C : Calls} (hC : MonC C) : ∀ (es : List Ex) {st : Stt} {Q Q' : Bool → Stt → Prop} {X X' : PX}, (∀ b st, Q b st → Q' b st) → (∀ c fs st, X c fs st → X' c fs st) → wTs C es st Q X → wTs C es st Q' X'
  | [], _, _, _, _, _, i, _, h => by rw [wTs_nil] at h ⊢; exact i _ _ h
  | e :: es, st, Q, Q', X, X', i, ix, h => by
    rw [wTs_cons] at h ⊢
    refine wT_mono hC e (fun k st z => ?_) ix h
    split at z
    · rename_i hk; rw [if_pos hk]; exact wTs_mono hC es i ix z
    · rename_i hk; rw [if_neg hk]; exact i _ _ z
end
structure EndLe (E E' : EndD) : Prop where
  nx : ∀ st, E.nx st → E'.nx st
  rt : ∀ d st, E.rt d st → E'.rt d st
  bk : ∀ st, E.bk st → E'.bk st
  ct : ∀ st, E.ct st → E'.ct st
  ex : ∀ c fs st, E.ex c fs st → E'.ex c fs st
mutual
theorem wS_mono {C : Calls} (hC : MonC C) : ∀ (s : Sm) {st : Stt} {E E' : EndD}, wS C s st E → EndLe E E' → wS C s st E'
  | .pass, _, _, _, h, l => by rw [wS_pass] at h ⊢; exact l.nx _ h
  | .brk, _, _, _, h, l => by rw [wS_brk] at h ⊢; exact l.bk _ h
  | .cnt, _, _, _, h, l => by rw [wS_cnt] at h ⊢; exact l.ct _ h
  | .ret a, _, _, _, h, l => by rw [wS_ret] at h ⊢; exact wE_mono hC a l.rt l.ex h
  | .exp a, _, _, _, h, l => by rw [wS_exp] at h ⊢; exact wE_mono hC a (fun _ => l.nx) l.ex h
  | .asg tg a, _, _, _, h, l => by
    rw [wS_asg] at h ⊢
    exact wE_mono hC a (fun d st ⟨e, he, z⟩ => ⟨e, he, l.nx _ z⟩) l.ex h
  | .asgO i a, _, _, _, h, l => by
    rw [wS_asgO] at h ⊢
    exact wE_mono hC a (fun d st => l.nx _) l.ex h
  | .setI i k a, _, _, _, h, l => by
    rw [wS_setI] at h ⊢
    refine wE_mono hC a (fun d st z => ⟨z.1, wE_mono hC k (fun j st2 z => ?_) l.ex z.2⟩) l.ex h
    split at z
    · obtain ⟨ds, m, z1, z2, z3⟩ := z
      exact ⟨ds, m, z1, z2, l.nx _ z3⟩
    · exact z.elim
  | .app i a, _, _, _, h, l => by
    rw [wS_app] at h ⊢
    exact ⟨h.1, wE_mono hC a (fun d st ⟨ds, z1, z2, z3⟩ => ⟨ds, z1, z2, l.nx _ z3⟩) l.ex h.2⟩
  | .ite t a b, _, _, _, h, l => by
    rw [wS_ite] at h ⊢
    refine wT_mono hC t (fun k st z => ?_) l.ex h
    split at z
    · rename_i hk; rw [if_pos hk]; exact wSs_mono hC a z l
    · rename_i hk; rw [if_neg hk]; exact wSs_mono hC b z l
  | .for_ k src tg body, _, E, E', h, l => by
    rw [wS_for] at h ⊢
    refine wL_mono hC src (fun ds st ⟨items, e, hl, z⟩ => ⟨items, e, hl, ?_⟩) l.ex h
    have m1 : MonF (fun x (st2 : Stt) R => ∃ e', tgS tg x st2.e = some e' ∧ wSs C body ⟨e', st2.h⟩ { nx := R, rt := E'.rt, bk := E'.nx, ct := R, ex := E'.ex }) := fun x st2 R R' ir ⟨e', he, z⟩ =>
      ⟨e', he, wSs_mono hC body z ⟨ir, fun _ _ z => z, fun _ z => z, ir, fun _ _ _ z => z⟩⟩
    refine forLoop_mono m1 l.nx ?_
    have key : ∀ (items : List D) (st : Stt), forLoop (fun x (st2 : Stt) R => ∃ e', tgS tg x st2.e = some e' ∧ wSs C body ⟨e', st2.h⟩ { nx := R, rt := E.rt, bk := E.nx, ct := R, ex := E.ex }) items st E.nx → forLoop (fun x (st2 : Stt) R => ∃ e', tgS tg x st2.e = some e' ∧ wSs C body ⟨e', st2.h⟩ { nx := R, rt := E'.rt, bk := E'.nx, ct := R, ex := E'.ex }) items st E.nx := by
      intro items
      induction items with
      | nil => exact fun st z => z
      | cons x xs ih =>
        intro st ⟨e', he, z⟩
        exact ⟨e', he, wSs_mono hC body z ⟨fun st z => ih st z, l.rt, l.nx, fun st z => ih st z, l.ex⟩⟩
    exact key items st z
  | .whl t body, _, E, E', h, l => by
    simp only [wS] at h ⊢
    obtain ⟨I, h0, turn⟩ := h
    refine ⟨I, h0, fun m st i => wT_mono hC t (fun k st z => ?_) l.ex (turn m st i)⟩
    split at z
    · rename_i hk; rw [if_pos hk]; exact wSs_mono hC body z ⟨fun _ z => z, l.rt, l.nx, fun _ z => z, l.ex⟩
    · rename_i hk; rw [if_neg hk]; exact l.nx _ z
  | .rais c es, _, _, _, h, l => by
    rw [wS_rais] at h ⊢
    exact wL_mono hC es (fun ds st z => ⟨z.1, l.ex _ _ _ z.2⟩) l.ex h
  | .tryA body cs suites, _, _, _, h, l => by
    rw [wS_try] at h ⊢
    exact wSs_mono hC body h ⟨l.nx, l.rt, l.bk, l.ct, fun c fs st z => wHs_mono hC cs suites z l⟩
  | .setF i x a, _, _, _, h, l => by
    rw [wS_setF] at h ⊢
    exact wE_mono hC a (fun d st ⟨k, c, fs, fs', z1, z2, z3⟩ => ⟨k, c, fs, fs', z1, z2, l.nx _ z3⟩) l.ex h
  | .par is es, _, _, _, h, l => by
    rw [wS_par] at h ⊢
    exact wL_mono hC es (fun ds st ⟨e', z1, z2⟩ => ⟨e', z1, l.nx _ z2⟩) l.ex h
theorem wHs_mono {C : Calls} (hC : MonC C) : ∀ (cs : List (Nat × Nat)) (suites : List (List Sm)) {c : Nat} {fs : List D} {st : Stt} {E E' : EndD}, wHs C cs suites c fs st E → EndLe E E' → wHs C cs suites c fs st E'
  | [], [], _, _, _, _, _, h, l => by rw [wHs_nil] at h ⊢; exact l.ex _ _ _ h
  | [], _ :: _, _, _, _, _, _, h, l => by simp only [wHs] at h ⊢; exact l.ex _ _ _ h
  | _ :: _, [], _, _, _, _, _, h, l => by simp only [wHs] at h ⊢; exact l.ex _ _ _ h
  | (k, i) :: cs, s :: suites, _, _, _, _, _, h, l => by
    rw [wHs_cons] at h ⊢
    split at h
    · rename_i hk; rw [if_pos hk]; exact wSs_mono hC s h ⟨fun _ z => ⟨z.1, l.nx _ z.2⟩, fun _ _ z => ⟨z.1, l.rt _ _ z.2⟩, fun _ z => ⟨z.1, l.bk _ z.2⟩, fun _ z => ⟨z.1, l.ct _ z.2⟩, fun _ _ _ z => z⟩
    · rename_i hk; rw [if_neg hk]; exact wHs_mono hC cs suites h l
theorem wSs_mono {C : Calls} (hC : MonC C) : ∀ (ss : List Sm) {st : Stt} {E E' : EndD}, wSs C ss st E → EndLe E E' → wSs C ss st E'
  | [], _, _, _, h, l => by rw [wSs_nil] at h ⊢; exact l.nx _ h
  | s :: ss, _, E, E', h, l => by
    rw [wSs_cons] at h ⊢
    exact wS_mono hC s h ⟨fun st z => wSs_mono hC ss z l, l.rt, l.bk, l.ct, l.ex⟩
end
theorem CC_mono {P : Nat → Option Fn} : ∀ n, MonC (CC P n)
  | 0 => fun f ds h Q Q' X X' _ _ z => by simp only [CC] at z
  | n + 1 => fun f ds h Q Q' X X' i ix z => by
    have z' : (match P f with
      | some fn => ds.length = fn.np ∧ wSs (CC P n) fn.body ⟨startE fn ds, h⟩ { nx := fun st => Q .non st.h, rt := fun d st => Q d st.h, bk := fun _ => False, ct := fun _ => False, ex := fun c fs st => X c fs st.h }
      | none => False) := z
    show (match P f with
      | some fn => ds.length = fn.np ∧ wSs (CC P n) fn.body ⟨startE fn ds, h⟩ { nx := fun st => Q' .non st.h, rt := fun d st => Q' d st.h, bk := fun _ => False, ct := fun _ => False, ex := fun c fs st => X' c fs st.h }
      | none => False)
    cases e : P f with
    | none => rw [e] at z'; exact z'
    | some fn =>
      rw [e] at z'
      exact ⟨z'.1, wSs_mono (CC_mono n) fn.body z'.2 ⟨fun _ => i _ _, fun _ _ => i _ _, fun _ z => z, fun _ z => z, fun _ _ _ => ix _ _ _⟩⟩
/-! ### the loops of programs -/
theorem for_ok {C : Calls} (hC : MonC C) {st : Stt} {E : EndD} {tg : Tg} {body : List Sm} {items : List D} (I : Nat → Stt → Prop) (h0 : I 0 st)
    (hs : ∀ i x st, items[i]? = some x → I i st → ∃ e', tgS tg x st.e = some e' ∧ wSs C body ⟨e', st.h⟩ { nx := I (i + 1), rt := E.rt, bk := E.nx, ct := I (i + 1), ex := E.ex }) (he : ∀ st, I items.length st → E.nx st) :
    forLoop (fun x (st2 : Stt) R => ∃ e', tgS tg x st2.e = some e' ∧ wSs C body ⟨e', st2.h⟩ { nx := R, rt := E.rt, bk := E.nx, ct := R, ex := E.ex }) items st E.nx := by
  refine for_inv I (fun x st2 R R' ir ⟨e', he, z⟩ => ⟨e', he, wSs_mono hC body z ⟨ir, fun _ _ z => z, fun _ z => z, ir, fun _ _ _ z => z⟩⟩) items 0 st h0 (fun i x st e z => ?_) fun st z => he st (by simpa using z)
  have e0 : 0 + i = i := by omega
  rw [e0] at z ⊢
  exact hs i x st e z
theorem lc_ok {C : Calls} (hC : MonC C) {st : Stt} {Q : List D → Stt → Prop} {tg : Tg} {ifs : List Ex} {elt : Ex} {own : List Nat} {items : List D} (I : Nat → List D → Stt → Prop) (h0 : I 0 [] st)
    (hs : ∀ i x acc st, items[i]? = some x → I i acc st → ∃ e', tgS tg x st.e = some e' ∧ wTs C ifs ⟨e', st.h⟩ (fun b st3 => if b = true then wE C elt st3 (fun y st4 => I (i + 1) (acc ++ [y]) ⟨hide st4.e own, st4.h⟩) (fun _ _ _ => False) else I (i + 1) acc ⟨hide st3.e own, st3.h⟩) (fun _ _ _ => False))
    (he : ∀ acc st, I items.length acc st → Q acc st) :
    lcLoop (fun x (st2 : Stt) R => ∃ e', tgS tg x st2.e = some e' ∧ wTs C ifs ⟨e', st2.h⟩ (fun b st3 => if b = true then wE C elt st3 (fun y st4 => R [y] ⟨hide st4.e own, st4.h⟩) (fun _ _ _ => False) else R [] ⟨hide st3.e own, st3.h⟩) (fun _ _ _ => False)) items [] st Q := by
  refine lc_inv I (fun x st2 R R' ir ⟨e', he, z⟩ => ⟨e', he, wTs_mono hC ifs (fun b st3 z => ?_) (fun _ _ _ z => z) z⟩) items 0 [] st h0 (fun i x acc st e z => ?_) fun acc st z => he acc st (by simpa using z)
  · have e0 : 0 + i = i := by omega
    rw [e0] at z ⊢
    have := hs i x acc st e z
    simpa only [List.append_nil] using this
  · split at z
    · rename_i hk; rw [if_pos hk]; exact wE_mono hC elt (fun y st4 => ir _ _) (fun _ _ _ z => z) z
    · rename_i hk; rw [if_neg hk]; exact ir _ _ z
end Mp
/-! simp, from the front: what comes behind is looked at only when its value is there -/
namespace Mp
open PySem PySem.Spec L2
/-- bears a term that simp is to leave alone -/
structure Hd {α : Type} (k : α) : Type where
def bindO {α : Type} (o : Option α) (K : α → Prop) (u : Hd K) : Prop := ∃ a, o = some a ∧ K a
@[simp] theorem bindO_some {α : Type} {a : α} {K : α → Prop} {u : Hd K} : bindO (some a) K u = K a := propext ⟨fun ⟨_, e, z⟩ => by cases e; exact z, fun z => ⟨_, rfl, z⟩⟩
@[simp] theorem bindO_none {α : Type} {K : α → Prop} {u : Hd K} : bindO none K u = False := propext ⟨fun ⟨_, e, _⟩ => (by cases e), False.elim⟩
def bindBl (d : D) (K : Bool → Prop) (u : Hd K) : Prop := ∃ k, d = .bl k ∧ K k
@[simp] theorem bindBl_bl {k : Bool} {K : Bool → Prop} {u : Hd K} : bindBl (.bl k) K u = K k := propext ⟨fun ⟨_, e, z⟩ => by cases e; exact z, fun z => ⟨_, rfl, z⟩⟩
def intK (d : D) (K : Int → Prop) (u : Hd K) : Prop := match d with
  | .int i => K i
  | _ => False
@[simp] theorem intK_int {i : Int} {K : Int → Prop} {u : Hd K} : intK (.int i) K u = K i := rfl
def lstK (d : D) (K : List D → Prop) (u : Hd K) : Prop := match d with
  | .lst ds => K ds
  | _ => False
@[simp] theorem lstK_lst {ds : List D} {K : List D → Prop} {u : Hd K} : lstK (.lst ds) K u = K ds := rfl
def slV (x : Option Sl) (K J : D → Prop) (u : Hd K) (v : Hd J) : Prop := match x with
  | some (.shr d) => K d
  | some (.own d) => J d
  | _ => False
@[simp] theorem slV_shr {d : D} {K J : D → Prop} {u : Hd K} {v : Hd J} : slV (some (.shr d)) K J u v = K d := rfl
@[simp] theorem slV_own {d : D} {K J : D → Prop} {u : Hd K} {v : Hd J} : slV (some (.own d)) K J u v = J d := rfl
def slO (x : Option Sl) : Option D := match x with
  | some (.own d) => some d
  | _ => none
@[simp] theorem slO_own {d : D} : slO (some (.own d)) = some d := rfl
def slL (x : Option Sl) : Option (List D) := match x with
  | some (.own (.lst ds)) => some ds
  | _ => none
@[simp] theorem slL_own {ds : List D} : slL (some (.own (.lst ds))) = some ds := rfl
def slR (x : Option Sl) : Option D := match x with
  | some (.shr d) => some d
  | some (.own d) => some d
  | _ => none
@[simp] theorem slR_shr {d : D} : slR (some (.shr d)) = some d := rfl
@[simp] theorem slR_own {d : D} : slR (some (.own d)) = some d := rfl
@[simp] theorem rdS_eq {e : List Sl} {i : Nat} : rdS e i = slR e[i]? := rfl
def lsC (o : Option CO) : Option (List D) := match o with
  | some (.lst ds) => some ds
  | _ => none
@[simp] theorem lsC_lst {ds : List D} : lsC (some (.lst ds)) = some ds := rfl
def lsA (x : Option Sl) (h : List CO) : Option (List D) := match x with
  | some (.own (.lst ds)) => some ds
  | some (.shr (.cell l)) => lsC h[l]?
  | _ => none
@[simp] theorem lsA_own {ds : List D} {h : List CO} : lsA (some (.own (.lst ds))) h = some ds := rfl
@[simp] theorem lsA_cell {l : Nat} {h : List CO} : lsA (some (.shr (.cell l))) h = lsC h[l]? := rfl
@[simp] theorem lstAt_eq {st : Stt} {i : Nat} : lstAt st i = lsA st.e[i]? st.h := by
  unfold lstAt lsA lsC
  rfl
def ptA (x : Option Sl) (st : Stt) (i : Nat) (ds : List D) : Stt := match x with
  | some (.own _) => ⟨st.e.set i (.own (.lst ds)), st.h⟩
  | some (.shr (.cell l)) => ⟨st.e, st.h.set l (.lst ds)⟩
  | _ => st
@[simp] theorem ptA_own {d : D} {st : Stt} {i : Nat} {ds : List D} : ptA (some (.own d)) st i ds = ⟨st.e.set i (.own (.lst ds)), st.h⟩ := rfl
@[simp] theorem ptA_cell {l : Nat} {st : Stt} {i : Nat} {ds : List D} : ptA (some (.shr (.cell l))) st i ds = ⟨st.e, st.h.set l (.lst ds)⟩ := rfl
@[simp] theorem putAt_eq {st : Stt} {i : Nat} {ds : List D} : putAt st i ds = ptA st.e[i]? st i ds := rfl
def celB (d : D) (st : Stt) (Q : PD) (u : Hd Q) : Prop := match d with
  | .lst ds => Q (.cell st.h.length) ⟨st.e, st.h ++ [.lst ds]⟩
  | .dic ks vs => Q (.cell st.h.length) ⟨st.e, st.h ++ [.dic ks vs]⟩
  | d => scalD d = true ∧ Q d st
section
variable {st : Stt} {Q : PD} {u : Hd Q}
@[simp] theorem celB_lst {ds : List D} : celB (.lst ds) st Q u = Q (.cell st.h.length) ⟨st.e, st.h ++ [.lst ds]⟩ := rfl
@[simp] theorem celB_dic {ks vs : List D} : celB (.dic ks vs) st Q u = Q (.cell st.h.length) ⟨st.e, st.h ++ [.dic ks vs]⟩ := rfl
@[simp] theorem celB_non : celB .non st Q u = Q .non st := by unfold celB; simp [scalD]
@[simp] theorem celB_int {i : Int} : celB (.int i) st Q u = Q (.int i) st := by unfold celB; simp [scalD]
@[simp] theorem celB_bl {i : Bool} : celB (.bl i) st Q u = Q (.bl i) st := by unfold celB; simp [scalD]
@[simp] theorem celB_str {i : Str} : celB (.str i) st Q u = Q (.str i) st := by unfold celB; simp [scalD]
end
@[simp] theorem ownS_lst {ds : List D} : ownS (.lst ds) = .own (.lst ds) := rfl
@[simp] theorem ownS_dic {ks vs : List D} : ownS (.dic ks vs) = .own (.dic ks vs) := rfl
@[simp] theorem ownS_non : ownS .non = .shr .non := rfl
@[simp] theorem ownS_int {i : Int} : ownS (.int i) = .shr (.int i) := rfl
@[simp] theorem ownS_bl {i : Bool} : ownS (.bl i) = .shr (.bl i) := rfl
@[simp] theorem ownS_str {i : Str} : ownS (.str i) = .shr (.str i) := rfl
@[simp] theorem scalD_non : scalD .non = true := rfl
@[simp] theorem scalD_int {i : Int} : scalD (.int i) = true := rfl
@[simp] theorem scalD_bl {i : Bool} : scalD (.bl i) = true := rfl
@[simp] theorem scalD_str {i : Str} : scalD (.str i) = true := rfl
/-- a caught exception's field; its class -/
def xfK (x : Option Sl) (f : Str) : Option D := match x with
  | some (.exc c fs) => (fldIx c f).bind fun k => fs[k]?
  | _ => none
@[simp] theorem xfK_exc {c : Nat} {fs : List D} {f : Str} : xfK (some (.exc c fs)) f = (fldIx c f).bind fun k => fs[k]? := rfl
def xiK (x : Option Sl) (k : Nat) : Option Bool := match x with
  | some (.exc c _) => some (excSub c k)
  | _ => none
@[simp] theorem xiK_exc {c k : Nat} {fs : List D} : xiK (some (.exc c fs)) k = some (excSub c k) := rfl
@[simp] theorem noX_nil : noX [] = true := rfl
@[simp] theorem noX_un {e : List Sl} : noX (.un :: e) = noX e := rfl
@[simp] theorem noX_shr {d : D} {e : List Sl} : noX (.shr d :: e) = noX e := rfl
@[simp] theorem noX_own {d : D} {e : List Sl} : noX (.own d :: e) = noX e := rfl
@[simp] theorem setSs_nil {e : List Sl} : setSs [] [] e = some e := rfl
@[simp] theorem setSs_cons {i : Nat} {is : List Nat} {d : D} {ds : List D} {e : List Sl} : setSs (i :: is) (d :: ds) e = setSs is ds (e.set i (.shr d)) := rfl
@[simp] theorem tgS_tp {ts : List Tg} {ds : List D} {e : List Sl} : tgS (.tp ts) (.tup ds) e = tgSs ts ds e := by simp only [tgS]
@[simp] theorem tgSs_nil {e : List Sl} : tgSs [] [] e = some e := by simp only [tgSs]
@[simp] theorem tgSs_nm {i : Nat} {ts : List Tg} {d : D} {ds : List D} {e : List Sl} : tgSs (.nm i :: ts) (d :: ds) e = tgSs ts ds (e.set i (.shr d)) := by simp only [tgSs, tgS]
@[simp] theorem tgSs_tp {us ts : List Tg} {d ds : List D} {e : List Sl} : tgSs (.tp us :: ts) (.tup d :: ds) e = (tgSs us d e).bind (tgSs ts ds) := by
  simp only [tgSs, tgS]
  cases tgSs us d e <;> rfl
def opB (o : Op) (ds : List D) (Q : D → Prop) (u : Hd Q) : Prop := opW o ds Q
def callB (C : Calls) (f : Nat) (ds : List D) (h : List CO) (Q : D → List CO → Prop) (X : Nat → List D → List CO → Prop) (u : Hd C) (v : Hd Q) (w : Hd X) : Prop := C f ds h Q X
theorem callB_of {C : Calls} {f : Nat} {ds : List D} {h : List CO} {Q : D → List CO → Prop} {X : Nat → List D → List CO → Prop} {u : Hd C} {v : Hd Q} {w : Hd X} (z : C f ds h Q X) : callB C f ds h Q X u v w := z
def forB (turn : D → Stt → (Stt → Prop) → Prop) (items : List D) (st : Stt) (Q : Stt → Prop) (u : Hd turn) (v : Hd Q) : Prop := forLoop turn items st Q
def lcB (turn : D → Stt → (List D → Stt → Prop) → Prop) (items : List D) (st : Stt) (Q : List D → Stt → Prop) (u : Hd turn) (v : Hd Q) : Prop := lcLoop turn items [] st Q
section
variable {C : Calls} {st : Stt} {Q : PD} {X : PX} {QA : List D → Stt → Prop} {QT : Bool → Stt → Prop} {E : EndD}
@[simp ↓] theorem z_con {d : D} : wE C (.con d) st Q X = Q d st := wE_con
@[simp ↓] theorem z_var {i : Nat} : wE C (.var i) st Q X = slV st.e[i]? (fun d => Q d st) (fun d => Q d ⟨st.e.set i (.shr d), st.h⟩) ⟨⟩ ⟨⟩ := by
  rw [wE_var]; cases st.e[i]? with
  | none => rfl
  | some x => cases x <;> rfl
@[simp ↓] theorem z_mov {i : Nat} : wE C (.mov i) st Q X = slV st.e[i]? (fun d => scalD d = true ∧ Q d st) (fun d => Q d ⟨st.e.set i .un, st.h⟩) ⟨⟩ ⟨⟩ := by
  rw [wE_mov]; cases st.e[i]? with
  | none => rfl
  | some x => cases x <;> rfl
@[simp ↓] theorem z_op {o : Op} {es : List Ex} : wE C (.op o es) st Q X = wA C es st (fun ds st1 => opB o (ds.map (view st1.h)) (fun d => Q d st1) ⟨⟩) X := wE_op
@[simp ↓] theorem z_tup {es : List Ex} : wE C (.tup es) st Q X = wL C es st (fun ds st1 => ds.length ≤ 1000 ∧ Q (.tup ds) st1) X := wE_tup
@[simp ↓] theorem z_lst {es : List Ex} : wE C (.lst es) st Q X = wL C es st (fun ds st1 => ds.length ≤ 1000 ∧ Q (.lst ds) st1) X := wE_lst
@[simp ↓] theorem z_andV {a b : Ex} : wE C (.andV a b) st Q X = wE C a st (fun d st1 => bindO (truD (view st1.h d)) (fun k => if k = true then wE C b st1 Q X else Q d st1) ⟨⟩) X := wE_andV
@[simp ↓] theorem z_orV {a b : Ex} : wE C (.orV a b) st Q X = wE C a st (fun d st1 => bindO (truD (view st1.h d)) (fun k => if k = true then Q d st1 else wE C b st1 Q X) ⟨⟩) X := wE_orV
@[simp ↓] theorem z_notV {a : Ex} : wE C (.notV a) st Q X = wE C a st (fun d st1 => bindO (truD (view st1.h d)) (fun k => Q (.bl (!k)) st1) ⟨⟩) X := wE_notV
@[simp ↓] theorem z_ite {t a b : Ex} : wE C (.ite t a b) st Q X = wT C t st (fun k st1 => if k = true then wE C a st1 Q X else wE C b st1 Q X) X := wE_ite
@[simp ↓] theorem z_chn {p q : Op} {a b c : Ex} : wE C (.chn p q a b c) st Q X = wE C a st (fun x st1 => wE C b st1 (fun y st2 => opB p [view st2.h x, view st2.h y] (fun r => bindBl r (fun k =>
      if k = true then wE C c st2 (fun z st3 => opB q [view st3.h y, view st3.h z] (fun r => Q r st3) ⟨⟩) X else Q (.bl false) st2) ⟨⟩) ⟨⟩) X) X := wE_chn
@[simp ↓] theorem z_call {f : Nat} {es : List Ex} {ar : List (Sum Nat D)} : wE C (.call f es ar) st Q X = wL C es st (fun ds st1 => callB C f (arr ar ds) st1.h (fun d h => Q d ⟨st1.e, h⟩) (fun c fs h => X c fs ⟨st1.e, h⟩) ⟨⟩ ⟨⟩ ⟨⟩) X := wE_call
@[simp ↓] theorem z_dct0 : wE C (.dct [] []) st Q X = Q (.dic [] []) st := wE_dct0
@[simp ↓] theorem z_dct1 {k v : Ex} : wE C (.dct [k] [v]) st Q X = wE C k st (fun a st1 => wE C v st1 (fun b st2 => keyD a = true ∧ Q (.dic [a] [b]) st2) X) X := wE_dct1
@[simp ↓] theorem z_cel {a : Ex} : wE C (.cel a) st Q X = wE C a st (fun d st1 => celB d st1 Q ⟨⟩) X := by
  rw [wE_cel]; rfl
@[simp ↓] theorem z_xfl {i : Nat} {x : Str} : wE C (.xfl i x) st Q X = bindO (xfK st.e[i]? x) (fun d => Q d st) ⟨⟩ := by
  rw [wE_xfl]; cases st.e[i]? with
  | none => exact bindO_none.symm
  | some y => cases y with
    | exc c fs =>
      unfold bindO
      show (∃ k d, _) = ∃ d, (fldIx c x).bind (fun k => fs[k]?) = some d ∧ _
      cases fldIx c x <;> simp
    | _ => exact bindO_none.symm
@[simp ↓] theorem z_xis {i k : Nat} : wE C (.xis i k) st Q X = bindO (xiK st.e[i]? k) (fun b => Q (.bl b) st) ⟨⟩ := by
  rw [wE_xis]; cases st.e[i]? with
  | none => exact bindO_none.symm
  | some y => cases y with
    | exc c fs => exact (bindO_some (a := excSub c k) (K := fun b => Q (.bl b) st)).symm
    | _ => exact bindO_none.symm
@[simp ↓] theorem z_make {c f : Nat} {fz : Bool} {es : List Ex} {ar : List (Sum Nat D)} : wE C (.make c fz f es ar) st Q X = wL C es st (fun ds st1 => callB C f (.cell st1.h.length :: arr ar ds) (st1.h ++ [.obj c []])
      (fun d h => d = .non ∧ if fz = true then ∃ fs, h = st1.h ++ [.obj c fs] ∧ cellsLts st1.h.length fs = true ∧ Q (.obj c fs) st1 else Q (.cell st1.h.length) ⟨st1.e, h⟩)
      (fun k fs h => if fz = true then (∃ gs, h = st1.h ++ [.obj c gs]) ∧ cellsLts st1.h.length fs = true ∧ X k fs st1 else X k fs ⟨st1.e, h⟩) ⟨⟩ ⟨⟩ ⟨⟩) X := wE_make
@[simp ↓] theorem z_meth {k : MK} {c f : Nat} {r : Ex} {es : List Ex} {ar : List (Sum Nat D)} : wE C (.meth k c f (r :: es) ar) st Q X = wE C r st (fun d st1 => (isIn k = false → isObj c (view st1.h d) = true) ∧ wL C es st1 (fun ds st2 => (isIn k = true → isObj c (view st2.h (ds.getD 0 .non)) = true) ∧
      callB C f (arr ar (d :: ds)) st2.h (fun d h => methQ k d fun r => Q r ⟨st2.e, h⟩) (fun c fs h => X c fs ⟨st2.e, h⟩) ⟨⟩ ⟨⟩ ⟨⟩) X) X := wE_meth
@[simp ↓] theorem z_pop {i : Nat} {a : Ex} : wE C (.pop i a) st Q X = bindO (slL st.e[i]?) (fun _ => wE C a st (fun d st1 => intK d (fun k => bindO (slL st1.e[i]?) (fun ds => ds.length ≤ sizeLine ∧ bindO (popAt ds k) (fun p => Q p.1 ⟨st1.e.set i (.own (.lst p.2)), st1.h⟩) ⟨⟩) ⟨⟩) ⟨⟩) X) ⟨⟩ := by
  rw [wE_pop]
  have e1 : ∀ x : Option Sl, (∃ ds, x = some (.own (.lst ds))) = ∃ ds, slL x = some ds := fun x => by
    cases x with
    | none => simp [slL]
    | some x => cases x with
      | own d => cases d <;> simp [slL]
      | _ => simp [slL]
  have e2 : (fun (d : D) (st1 : Stt) => (match d, st1.e[i]? with
    | .int k, some (.own (.lst ds)) => ds.length ≤ sizeLine ∧ ∃ x r, popAt ds k = some (x, r) ∧ Q x ⟨st1.e.set i (.own (.lst r)), st1.h⟩
    | _, _ => False)) = fun d st1 => intK d (fun k => bindO (slL st1.e[i]?) (fun ds => ds.length ≤ sizeLine ∧ bindO (popAt ds k) (fun p => Q p.1 ⟨st1.e.set i (.own (.lst p.2)), st1.h⟩) ⟨⟩) ⟨⟩) ⟨⟩ := by
    funext d st1
    cases d with
    | int k =>
      rw [intK_int]
      cases st1.e[i]? with
      | none => exact bindO_none.symm
      | some x => cases x with
        | own d => cases d with
          | lst ds =>
            rw [slL_own, bindO_some]
            unfold bindO
            simp only [Prod.exists]
          | _ => exact bindO_none.symm
        | _ => exact bindO_none.symm
    | _ => rfl
  rw [e1]
  have e3 := congrArg (fun z => (∃ ds, slL st.e[i]? = some ds) ∧ wE C a st z X) e2
  refine e3.trans ?_
  show _ = ∃ a_1, slL st.e[i]? = some a_1 ∧ wE C a st _ X
  rw [exists_and_right]
@[simp ↓] theorem z_lc {k : ItK} {src : List Ex} {tg : Tg} {ifs : List Ex} {elt : Ex} {own : List Nat} : wE C (.lc k src tg ifs elt own) st Q X = wL C src st (fun ds st1 => bindO (itD k ds) (fun items => items.length ≤ sizeLine ∧
      lcB (fun x st2 R => ∃ e', tgS tg x st2.e = some e' ∧ wTs C ifs ⟨e', st2.h⟩ (fun b st3 => if b = true then wE C elt st3 (fun y st4 => R [y] ⟨hide st4.e own, st4.h⟩) (fun _ _ _ => False) else R [] ⟨hide st3.e own, st3.h⟩) (fun _ _ _ => False))
        items ⟨hide st1.e own, st1.h⟩ (fun out st5 => Q (.lst out) ⟨unhide st1.e st5.e own, st5.h⟩) ⟨⟩ ⟨⟩) ⟨⟩) X := wE_lc
@[simp ↓] theorem z_Anil : wA C [] st QA X = QA [] st := wA_nil
@[simp ↓] theorem z_Abrw {i : Nat} {es : List Ex} : wA C (.brw i :: es) st QA X = bindO (rdS st.e i) (fun _ => wA C es st (fun ds st2 => bindO (rdS st2.e i) (fun d => QA (d :: ds) st2) ⟨⟩) X) ⟨⟩ := by
  rw [wA_brw, Option.isSome_iff_exists]
  show _ = ∃ a_1, rdS st.e i = some a_1 ∧ _
  rw [exists_and_right]
  rfl
@[simp ↓] theorem z_Acon {d : D} {es : List Ex} : wA C (.con d :: es) st QA X = wA C es st (fun ds st2 => QA (d :: ds) st2) X := wA_con
@[simp ↓] theorem z_Aop {o : Op} {l es : List Ex} : wA C (.op o l :: es) st QA X = wE C (.op o l) st (fun d st1 => wA C es st1 (fun ds st2 => QA (d :: ds) st2) X) X := wA_cons rfl
@[simp ↓] theorem z_Atup {l es : List Ex} : wA C (.tup l :: es) st QA X = wE C (.tup l) st (fun d st1 => wA C es st1 (fun ds st2 => QA (d :: ds) st2) X) X := wA_cons rfl
@[simp ↓] theorem z_Alst {l es : List Ex} : wA C (.lst l :: es) st QA X = wE C (.lst l) st (fun d st1 => wA C es st1 (fun ds st2 => QA (d :: ds) st2) X) X := wA_cons rfl
@[simp ↓] theorem z_Acall {f : Nat} {l es : List Ex} {ar : List (Sum Nat D)} : wA C (.call f l ar :: es) st QA X = wE C (.call f l ar) st (fun d st1 => wA C es st1 (fun ds st2 => QA (d :: ds) st2) X) X := wA_cons rfl
@[simp ↓] theorem z_AandV {a b : Ex} {es : List Ex} : wA C (.andV a b :: es) st QA X = wE C (.andV a b) st (fun d st1 => wA C es st1 (fun ds st2 => QA (d :: ds) st2) X) X := wA_cons rfl
@[simp ↓] theorem z_AorV {a b : Ex} {es : List Ex} : wA C (.orV a b :: es) st QA X = wE C (.orV a b) st (fun d st1 => wA C es st1 (fun ds st2 => QA (d :: ds) st2) X) X := wA_cons rfl
@[simp ↓] theorem z_AnotV {a : Ex} {es : List Ex} : wA C (.notV a :: es) st QA X = wE C (.notV a) st (fun d st1 => wA C es st1 (fun ds st2 => QA (d :: ds) st2) X) X := wA_cons rfl
@[simp ↓] theorem z_Aite {t a b : Ex} {es : List Ex} : wA C (.ite t a b :: es) st QA X = wE C (.ite t a b) st (fun d st1 => wA C es st1 (fun ds st2 => QA (d :: ds) st2) X) X := wA_cons rfl
@[simp ↓] theorem z_Achn {p q : Op} {a b c : Ex} {es : List Ex} : wA C (.chn p q a b c :: es) st QA X = wE C (.chn p q a b c) st (fun d st1 => wA C es st1 (fun ds st2 => QA (d :: ds) st2) X) X := wA_cons rfl
@[simp ↓] theorem z_Alc {k : ItK} {src : List Ex} {tg : Tg} {ifs : List Ex} {elt : Ex} {own : List Nat} {es : List Ex} : wA C (.lc k src tg ifs elt own :: es) st QA X = wE C (.lc k src tg ifs elt own) st (fun d st1 => wA C es st1 (fun ds st2 => QA (d :: ds) st2) X) X := wA_cons rfl
@[simp ↓] theorem z_Axfl {i : Nat} {x : Str} {es : List Ex} : wA C (.xfl i x :: es) st QA X = wE C (.xfl i x) st (fun d st1 => wA C es st1 (fun ds st2 => QA (d :: ds) st2) X) X := wA_cons rfl
@[simp ↓] theorem z_Axis {i k : Nat} {es : List Ex} : wA C (.xis i k :: es) st QA X = wE C (.xis i k) st (fun d st1 => wA C es st1 (fun ds st2 => QA (d :: ds) st2) X) X := wA_cons rfl
@[simp ↓] theorem z_Acel {a : Ex} {es : List Ex} : wA C (.cel a :: es) st QA X = wE C (.cel a) st (fun d st1 => wA C es st1 (fun ds st2 => QA (d :: ds) st2) X) X := wA_cons rfl
@[simp ↓] theorem z_Avar {i : Nat} {es : List Ex} : wA C (.var i :: es) st QA X = wE C (.var i) st (fun d st1 => wA C es st1 (fun ds st2 => QA (d :: ds) st2) X) X := wA_cons rfl
@[simp ↓] theorem z_Adct {ks vs es : List Ex} : wA C (.dct ks vs :: es) st QA X = wE C (.dct ks vs) st (fun d st1 => wA C es st1 (fun ds st2 => QA (d :: ds) st2) X) X := wA_cons rfl
@[simp ↓] theorem z_Apop {i : Nat} {a : Ex} {es : List Ex} : wA C (.pop i a :: es) st QA X = wE C (.pop i a) st (fun d st1 => wA C es st1 (fun ds st2 => QA (d :: ds) st2) X) X := wA_cons rfl
@[simp ↓] theorem z_Amake {c f : Nat} {fz : Bool} {l : List Ex} {ar : List (Sum Nat D)} {es : List Ex} : wA C (.make c fz f l ar :: es) st QA X = wE C (.make c fz f l ar) st (fun d st1 => wA C es st1 (fun ds st2 => QA (d :: ds) st2) X) X := wA_cons rfl
@[simp ↓] theorem z_Ameth {k : MK} {c f : Nat} {l : List Ex} {ar : List (Sum Nat D)} {es : List Ex} : wA C (.meth k c f l ar :: es) st QA X = wE C (.meth k c f l ar) st (fun d st1 => wA C es st1 (fun ds st2 => QA (d :: ds) st2) X) X := wA_cons rfl
@[simp ↓] theorem z_Lnil : wL C [] st QA X = QA [] st := wL_nil
@[simp ↓] theorem z_Lcons {e : Ex} {es : List Ex} : wL C (e :: es) st QA X = wE C e st (fun d st1 => wL C es st1 (fun ds st2 => QA (d :: ds) st2) X) X := wL_cons
@[simp ↓] theorem z_Tand {a b : Ex} : wT C (.tAnd a b) st QT X = wT C a st (fun k st1 => if k = true then wT C b st1 QT X else QT false st1) X := wT_and
@[simp ↓] theorem z_Tor {a b : Ex} : wT C (.tOr a b) st QT X = wT C a st (fun k st1 => if k = true then QT true st1 else wT C b st1 QT X) X := wT_or
@[simp ↓] theorem z_Tnot {a : Ex} : wT C (.tNot a) st QT X = wT C a st (fun k st1 => QT (!k) st1) X := wT_not
@[simp ↓] theorem z_Ttru {a : Ex} : wT C (.tru a) st QT X = wE C a st (fun d st1 => bindO (truD (view st1.h d)) (fun k => QT k st1) ⟨⟩) X := wT_tru
@[simp ↓] theorem z_Ttb {a : Ex} : wT C (.tb a) st QT X = wE C a st (fun d st1 => bindBl d (fun k => QT k st1) ⟨⟩) X := wT_tb
@[simp ↓] theorem z_Tsnil : wTs C [] st QT X = QT true st := wTs_nil
@[simp ↓] theorem z_Tscons {t : Ex} {ts : List Ex} : wTs C (t :: ts) st QT X = wT C t st (fun k st1 => if k = true then wTs C ts st1 QT X else QT false st1) X := wTs_cons
@[simp ↓] theorem z_pass : wS C .pass st E = E.nx st := wS_pass
@[simp ↓] theorem z_brk : wS C .brk st E = E.bk st := wS_brk
@[simp ↓] theorem z_cnt : wS C .cnt st E = E.ct st := wS_cnt
@[simp ↓] theorem z_ret {a : Ex} : wS C (.ret a) st E = wE C a st E.rt E.ex := wS_ret
@[simp ↓] theorem z_exp {a : Ex} : wS C (.exp a) st E = wE C a st (fun _ st1 => E.nx st1) E.ex := wS_exp
@[simp ↓] theorem z_asg {tg : Tg} {a : Ex} : wS C (.asg tg a) st E = wE C a st (fun d st1 => bindO (tgS tg d st1.e) (fun e' => E.nx ⟨e', st1.h⟩) ⟨⟩) E.ex := wS_asg
@[simp ↓] theorem z_asgO {i : Nat} {a : Ex} : wS C (.asgO i a) st E = wE C a st (fun d st1 => E.nx ⟨st1.e.set i (ownS d), st1.h⟩) E.ex := wS_asgO
@[simp ↓] theorem z_setI {i : Nat} {k a : Ex} : wS C (.setI i k a) st E = wE C a st (fun d st1 => bindO (rdS st1.e i) (fun _ => wE C k st1 (fun z st2 => intK z (fun j => bindO (lstAt st2 i) (fun ds => bindO (ixN ds.length j) (fun m => E.nx (putAt st2 i (ds.set m d))) ⟨⟩) ⟨⟩) ⟨⟩) E.ex) ⟨⟩) E.ex := by
  rw [wS_setI]
  congr 1
  funext d st1
  rw [Option.isSome_iff_exists]
  have e : (fun z (st2 : Stt) => (match z with
    | .int j => ∃ ds m, lstAt st2 i = some ds ∧ ixN ds.length j = some m ∧ E.nx (putAt st2 i (ds.set m d))
    | _ => False)) = fun z st2 => intK z (fun j => bindO (lstAt st2 i) (fun ds => bindO (ixN ds.length j) (fun m => E.nx (putAt st2 i (ds.set m d))) ⟨⟩) ⟨⟩) ⟨⟩ := by
    funext z st2
    cases z with
    | int j =>
      rw [intK_int]
      unfold bindO
      simp
    | _ => rfl
  have e3 := congrArg (fun z => (∃ a, rdS st1.e i = some a) ∧ wE C k st1 z E.ex) e
  refine e3.trans ?_
  show _ = ∃ a_1, rdS st1.e i = some a_1 ∧ _
  rw [exists_and_right]
@[simp ↓] theorem z_app {i : Nat} {a : Ex} : wS C (.app i a) st E = bindO (lstAt st i) (fun _ => wE C a st (fun d st1 => bindO (lstAt st1 i) (fun ds => ds.length < sizeLine ∧ E.nx (putAt st1 i (ds ++ [d]))) ⟨⟩) E.ex) ⟨⟩ := by
  rw [wS_app, Option.isSome_iff_exists]
  show _ = ∃ a_1, lstAt st i = some a_1 ∧ _
  rw [exists_and_right]
  rfl
@[simp ↓] theorem z_iteS {t : Ex} {a b : List Sm} : wS C (.ite t a b) st E = wT C t st (fun k st1 => if k = true then wSs C a st1 E else wSs C b st1 E) E.ex := wS_ite
@[simp ↓] theorem z_for {k : ItK} {src : List Ex} {tg : Tg} {body : List Sm} : wS C (.for_ k src tg body) st E = wL C src st (fun ds st1 => bindO (itD k ds) (fun items => items.length ≤ sizeLine ∧
      forB (fun x st2 R => ∃ e', tgS tg x st2.e = some e' ∧ wSs C body ⟨e', st2.h⟩ { nx := R, rt := E.rt, bk := E.nx, ct := R, ex := E.ex }) items st1 E.nx ⟨⟩ ⟨⟩) ⟨⟩) E.ex := wS_for
@[simp ↓] theorem z_rais {c : Nat} {es : List Ex} : wS C (.rais c es) st E = wL C es st (fun ds st1 => ds.length = (fldsOf c).length ∧ E.ex c ds st1) E.ex := wS_rais
@[simp ↓] theorem z_try {body : List Sm} {cs : List (Nat × Nat)} {suites : List (List Sm)} : wS C (.tryA body cs suites) st E = wSs C body st { nx := E.nx, rt := E.rt, bk := E.bk, ct := E.ct, ex := fun c fs st1 => wHs C cs suites c fs st1 E } := wS_try
@[simp ↓] theorem z_Hnil {c : Nat} {fs : List D} : wHs C [] [] c fs st E = E.ex c fs st := wHs_nil
@[simp ↓] theorem z_Hcons {k i c : Nat} {cs : List (Nat × Nat)} {suite : List Sm} {suites : List (List Sm)} {fs : List D} : wHs C ((k, i) :: cs) (suite :: suites) c fs st E = if excSub c k = true then wSs C suite ⟨st.e.set i (.exc c fs), st.h⟩
      { nx := fun st2 => noX (st2.e.set i .un) = true ∧ E.nx ⟨st2.e.set i .un, st2.h⟩, rt := fun d st2 => noX (st2.e.set i .un) = true ∧ E.rt d ⟨st2.e.set i .un, st2.h⟩,
        bk := fun st2 => noX (st2.e.set i .un) = true ∧ E.bk ⟨st2.e.set i .un, st2.h⟩, ct := fun st2 => noX (st2.e.set i .un) = true ∧ E.ct ⟨st2.e.set i .un, st2.h⟩, ex := fun _ _ _ => False } else wHs C cs suites c fs st E := wHs_cons
@[simp ↓] theorem z_par {is : List Nat} {es : List Ex} : wS C (.par is es) st E = wL C es st (fun ds st1 => bindO (setSs is ds st1.e) (fun e' => E.nx ⟨e', st1.h⟩) ⟨⟩) E.ex := wS_par
@[simp ↓] theorem z_setF {i : Nat} {x : Str} {a : Ex} : wS C (.setF i x a) st E = wE C a st (fun d st1 => bindO (objAt st1 i) (fun o => bindO (putFl o.2.1 x d o.2.2) (fun fs' => E.nx ⟨st1.e, st1.h.set o.1 (.obj o.2.1 fs')⟩) ⟨⟩) ⟨⟩) E.ex := by
  rw [wS_setF]
  congr 1
  funext d st1
  unfold bindO
  simp
@[simp ↓] theorem z_Snil : wSs C [] st E = E.nx st := wSs_nil
@[simp ↓] theorem z_Scons {s : Sm} {ss : List Sm} : wSs C (s :: ss) st E = wS C s st { nx := fun st1 => wSs C ss st1 E, rt := E.rt, bk := E.bk, ct := E.ct, ex := E.ex } := wSs_cons
end
@[simp] theorem hide_nil {e : List Sl} : hide e [] = e := by cases e <;> rfl
@[simp] theorem hide_cons {e : List Sl} {i : Nat} {r : List Nat} : hide e (i :: r) = (hide e r).set i .un := by cases r <;> rfl
def slU (x : Option Sl) : Sl := match x with
  | some (.shr d) => .shr d
  | _ => .un
@[simp] theorem slU_shr {d : D} : slU (some (.shr d)) = .shr d := rfl
@[simp] theorem slU_un : slU (some .un) = .un := rfl
@[simp] theorem slU_own {d : D} : slU (some (.own d)) = .un := rfl
@[simp] theorem slU_exc {c : Nat} {ds : List D} : slU (some (.exc c ds)) = .un := rfl
@[simp] theorem unhide_nil {e0 e : List Sl} : unhide e0 e [] = e := rfl
@[simp] theorem unhide_cons {e0 e : List Sl} {i : Nat} {r : List Nat} : unhide e0 e (i :: r) = (unhide e0 e r).set i (slU e0[i]?) := rfl
@[simp] theorem eqOk_str {a b : Str} : eqOk (.str a) (.str b) = true := rfl
@[simp] theorem eqOk_int {a b : Int} : eqOk (.int a) (.int b) = true := rfl
@[simp] theorem eqOk_bl {a b : Bool} : eqOk (.bl a) (.bl b) = true := rfl
@[simp] theorem eqD_str {a b : Str} : eqD (.str a) (.str b) = decide (a = b) := by simp only [eqD]
@[simp] theorem eqD_int {a b : Int} : eqD (.int a) (.int b) = decide (a = b) := by simp only [eqD]; exact Bool.eq_iff_iff.mpr (by simp)
@[simp] theorem eqD_bl {a b : Bool} : eqD (.bl a) (.bl b) = (a == b) := by simp only [eqD]
@[simp] theorem eqD_lst {a b : List D} : eqD (.lst a) (.lst b) = eqDs a b := by simp only [eqD]
@[simp] theorem eqD_tup {a b : List D} : eqD (.tup a) (.tup b) = eqDs a b := by simp only [eqD]
@[simp] theorem eqDs_nil : eqDs [] [] = true := by simp only [eqDs]
@[simp] theorem eqDs_cons {a b : D} {as bs : List D} : eqDs (a :: as) (b :: bs) = (eqD a b && eqDs as bs) := by simp only [eqDs]
theorem wSs_append {C : Calls} : ∀ {a b : List Sm} {st : Stt} {E : EndD}, wSs C (a ++ b) st E = wSs C a st { nx := fun st1 => wSs C b st1 E, rt := E.rt, bk := E.bk, ct := E.ct, ex := E.ex }
  | [], b, st, E => by rw [List.nil_append, wSs_nil]
  | s :: a, b, st, E => by
    rw [List.cons_append, wSs_cons, wSs_cons]
    congr 2
    funext st1
    rw [wSs_append]
/-- R is reached -/
def Rch (R : Stt → Prop) (st : Stt) (u : Hd R) : Prop := R st
theorem Rch_of {R : Stt → Prop} {st : Stt} {u : Hd R} (h : R st) : Rch R st u := h
def Rcl (R : List D → Stt → Prop) (ds : List D) (st : Stt) (u : Hd R) : Prop := R ds st
theorem Rcl_of {R : List D → Stt → Prop} {ds : List D} {st : Stt} {u : Hd R} (h : R ds st) : Rcl R ds st u := h
theorem cut {C : Calls} (hC : MonC C) (k : Nat) (R : Stt → Prop) {ss : List Sm} {st : Stt} {E : EndD} (h1 : wSs C (ss.take k) st { nx := fun st => Rch R st ⟨⟩, rt := E.rt, bk := E.bk, ct := E.ct, ex := E.ex }) (h2 : ∀ st, R st → wSs C (ss.drop k) st E) : wSs C ss st E := by
  rw [← List.take_append_drop k ss, wSs_append]
  exact wSs_mono hC _ h1 ⟨h2, fun _ _ z => z, fun _ z => z, fun _ z => z, fun _ _ _ z => z⟩
theorem forB_ok {C : Calls} (hC : MonC C) {st : Stt} {nx : Stt → Prop} {rt : D → Stt → Prop} {ex : PX} {tg : Tg} {body : List Sm} {items : List D} {u : Hd (fun x (st2 : Stt) R => ∃ e', tgS tg x st2.e = some e' ∧ wSs C body ⟨e', st2.h⟩ { nx := R, rt := rt, bk := nx, ct := R, ex := ex })} {v : Hd nx}
    (I : Nat → Stt → Prop) (h0 : I 0 st) (hs : ∀ i x st, items[i]? = some x → I i st → bindO (tgS tg x st.e) (fun e' => wSs C body ⟨e', st.h⟩ { nx := fun st => Rch (I (i + 1)) st ⟨⟩, rt := rt, bk := nx, ct := fun st => Rch (I (i + 1)) st ⟨⟩, ex := ex }) ⟨⟩) (he : ∀ st, I items.length st → nx st) :
    forB (fun x (st2 : Stt) R => ∃ e', tgS tg x st2.e = some e' ∧ wSs C body ⟨e', st2.h⟩ { nx := R, rt := rt, bk := nx, ct := R, ex := ex }) items st nx u v :=
  for_ok (E := { nx := nx, rt := rt, bk := nx, ct := nx, ex := ex }) hC I h0 hs he
theorem lcB_ok {C : Calls} (hC : MonC C) {st : Stt} {Q : List D → Stt → Prop} {tg : Tg} {ifs : List Ex} {elt : Ex} {own : List Nat} {items : List D}
    {u : Hd (fun x (st2 : Stt) (R : List D → Stt → Prop) => ∃ e', tgS tg x st2.e = some e' ∧ wTs C ifs ⟨e', st2.h⟩ (fun b st3 => if b = true then wE C elt st3 (fun y st4 => R [y] ⟨hide st4.e own, st4.h⟩) (fun _ _ _ => False) else R [] ⟨hide st3.e own, st3.h⟩) (fun _ _ _ => False))} {v : Hd Q}
    (I : Nat → List D → Stt → Prop) (h0 : I 0 [] st)
    (hs : ∀ i x acc st, items[i]? = some x → I i acc st → bindO (tgS tg x st.e) (fun e' => wTs C ifs ⟨e', st.h⟩ (fun b st3 => if b = true then wE C elt st3 (fun y st4 => Rcl (I (i + 1)) (acc ++ [y]) ⟨hide st4.e own, st4.h⟩ ⟨⟩) (fun _ _ _ => False) else Rcl (I (i + 1)) acc ⟨hide st3.e own, st3.h⟩ ⟨⟩) (fun _ _ _ => False)) ⟨⟩)
    (he : ∀ acc st, I items.length acc st → Q acc st) :
    lcB (fun x (st2 : Stt) R => ∃ e', tgS tg x st2.e = some e' ∧ wTs C ifs ⟨e', st2.h⟩ (fun b st3 => if b = true then wE C elt st3 (fun y st4 => R [y] ⟨hide st4.e own, st4.h⟩) (fun _ _ _ => False) else R [] ⟨hide st3.e own, st3.h⟩) (fun _ _ _ => False)) items st Q u v :=
  lc_ok hC I h0 hs he
theorem forB_list {C : Calls} (hC : MonC C) {st : Stt} {nx : Stt → Prop} {rt : D → Stt → Prop} {ex : PX} {tg : Tg} {body : List Sm} {items : List D} {u : Hd (fun x (st2 : Stt) R => ∃ e', tgS tg x st2.e = some e' ∧ wSs C body ⟨e', st2.h⟩ { nx := R, rt := rt, bk := nx, ct := R, ex := ex })} {v : Hd nx}
    (I : List D → Stt → Prop) (h0 : I items st) (hs : ∀ x xs st, I (x :: xs) st → bindO (tgS tg x st.e) (fun e' => wSs C body ⟨e', st.h⟩ { nx := fun st => Rch (I xs) st ⟨⟩, rt := rt, bk := nx, ct := fun st => Rch (I xs) st ⟨⟩, ex := ex }) ⟨⟩) (he : ∀ st, I [] st → nx st) :
    forB (fun x (st2 : Stt) R => ∃ e', tgS tg x st2.e = some e' ∧ wSs C body ⟨e', st2.h⟩ { nx := R, rt := rt, bk := nx, ct := R, ex := ex }) items st nx u v := by
  show forLoop _ items st nx
  clear u v
  induction items generalizing st with
  | nil => exact he st h0
  | cons x xs ih =>
    obtain ⟨e', h1, h2⟩ := hs x xs st h0
    exact ⟨e', h1, wSs_mono hC body h2 ⟨fun st z => ih z, fun _ _ z => z, fun _ z => z, fun st z => ih z, fun _ _ _ z => z⟩⟩
theorem lcB_list {C : Calls} (hC : MonC C) {st : Stt} {Q : List D → Stt → Prop} {tg : Tg} {ifs : List Ex} {elt : Ex} {own : List Nat} {items : List D}
    {u : Hd (fun x (st2 : Stt) (R : List D → Stt → Prop) => ∃ e', tgS tg x st2.e = some e' ∧ wTs C ifs ⟨e', st2.h⟩ (fun b st3 => if b = true then wE C elt st3 (fun y st4 => R [y] ⟨hide st4.e own, st4.h⟩) (fun _ _ _ => False) else R [] ⟨hide st3.e own, st3.h⟩) (fun _ _ _ => False))} {v : Hd Q}
    (I : List D → List D → Stt → Prop) (h0 : I items [] st)
    (hs : ∀ x xs acc st, I (x :: xs) acc st → bindO (tgS tg x st.e) (fun e' => wTs C ifs ⟨e', st.h⟩ (fun b st3 => if b = true then wE C elt st3 (fun y st4 => Rcl (I xs) (acc ++ [y]) ⟨hide st4.e own, st4.h⟩ ⟨⟩) (fun _ _ _ => False) else Rcl (I xs) acc ⟨hide st3.e own, st3.h⟩ ⟨⟩) (fun _ _ _ => False)) ⟨⟩)
    (he : ∀ acc st, I [] acc st → Q acc st) :
    lcB (fun x (st2 : Stt) R => ∃ e', tgS tg x st2.e = some e' ∧ wTs C ifs ⟨e', st2.h⟩ (fun b st3 => if b = true then wE C elt st3 (fun y st4 => R [y] ⟨hide st4.e own, st4.h⟩) (fun _ _ _ => False) else R [] ⟨hide st3.e own, st3.h⟩) (fun _ _ _ => False)) items st Q u v := by
  show lcLoop _ items [] st Q
  clear u v
  have key : ∀ (items acc : List D) (st : Stt), I items acc st → lcLoop (fun x (st2 : Stt) R => ∃ e', tgS tg x st2.e = some e' ∧ wTs C ifs ⟨e', st2.h⟩ (fun b st3 => if b = true then wE C elt st3 (fun y st4 => R [y] ⟨hide st4.e own, st4.h⟩) (fun _ _ _ => False) else R [] ⟨hide st3.e own, st3.h⟩) (fun _ _ _ => False)) items acc st Q := by
    intro items
    induction items with
    | nil => exact fun acc st z => he acc st z
    | cons x xs ih =>
      intro acc st z
      obtain ⟨e', h1, h2⟩ := hs x xs acc st z
      refine ⟨e', h1, wTs_mono hC ifs (fun b st3 w => ?_) (fun _ _ _ z => z) h2⟩
      split at w
      · rename_i hk; rw [if_pos hk]; exact wE_mono hC elt (fun y st4 z => ih _ _ z) (fun _ _ _ z => z) w
      · rename_i hk; rw [if_neg hk]; have z := ih _ _ w; rw [← List.append_nil acc] at z; exact z
  exact key items [] st h0
/-- str of an int -/
def digS (i : Int) : Str := toString i
def cutB (a : D) (lo hi : Option Int) (Q : D → Prop) (u : Hd Q) : Prop := cutW a lo hi Q
section
variable {Q : D → Prop} {i j : Int} {a b : D} {ds : List D} {u : Hd Q} {lo hi : Option Int}
@[simp] theorem cutB_lst : cutB (.lst ds) lo hi Q u = Q (.lst (cutL ds lo hi)) := rfl
@[simp] theorem cutB_tup : cutB (.tup ds) lo hi Q u = Q (.tup (cutL ds lo hi)) := rfl
@[simp] theorem cutB_str {x : Str} : cutB (.str x) lo hi Q u = (x.length ≤ sizeLine ∧ Q (.str (cutS x lo hi))) := rfl
@[simp] theorem strsD_nil : strsD [] = some [] := rfl
@[simp] theorem strsD_cons {x : Str} : strsD (.str x :: ds) = (strsD ds).map (x :: ·) := rfl
theorem strsD_map (xs : List Str) : strsD (xs.map D.str) = some xs := by
  induction xs with
  | nil => rfl
  | cons x xs ih => simp [ih]
@[simp] theorem intsD_nil : intsD [] = some [] := rfl
@[simp] theorem intsD_cons : intsD (.int i :: ds) = (intsD ds).map (i :: ·) := rfl
theorem intsD_map (xs : List Int) : intsD (xs.map D.int) = some xs := by
  induction xs with
  | nil => rfl
  | cons x xs ih => simp [ih]
@[simp] theorem blsD_nil : blsD [] = some [] := rfl
@[simp] theorem blsD_cons {k : Bool} : blsD (.bl k :: ds) = (blsD ds).map (k :: ·) := rfl
theorem blsD_map (xs : List Bool) : blsD (xs.map D.bl) = some xs := by
  induction xs with
  | nil => rfl
  | cons x xs ih => simp [ih]
@[simp] theorem z_add : opB .add [.int i, .int j] Q u = Q (.int (i + j)) := rfl
@[simp] theorem z_addS {x y : Str} : opB .add [.str x, .str y] Q u = (x.length + y.length ≤ sizeLine ∧ Q (.str (x ++ y))) := rfl
@[simp] theorem z_addL {es : List D} : opB .add [.lst ds, .lst es] Q u = (ds.length + es.length ≤ sizeLine ∧ Q (.lst (ds ++ es))) := rfl
@[simp] theorem z_addT {es : List D} : opB .add [.tup ds, .tup es] Q u = (ds.length + es.length ≤ sizeLine ∧ Q (.tup (ds ++ es))) := rfl
@[simp] theorem z_mulS {x : Str} : opB .mul [.str x, .int j] Q u = ((0 ≤ j ∧ j ≤ 1000 ∧ x.length ≤ 1000) ∧ Q (.str (Txt.mul x j))) := rfl
@[simp] theorem z_eqL {es : List D} : opB .eqL [.lst ds, .lst es] Q u = bindO (itEqs ds es) (fun k => Q (.bl k)) ⟨⟩ := rfl
@[simp] theorem z_neL {es : List D} : opB .neL [.lst ds, .lst es] Q u = bindO (itEqs ds es) (fun k => Q (.bl (!k))) ⟨⟩ := rfl
@[simp] theorem z_inT : opB .in_ [a, .tup ds] Q u = ((flatD 50 a = true ∧ flatDs 50 ds = true) ∧ Q (.bl (ds.any fun z => eqD z a))) := rfl
@[simp] theorem z_notInT : opB .notIn [a, .tup ds] Q u = ((flatD 50 a = true ∧ flatDs 50 ds = true) ∧ Q (.bl (!ds.any fun z => eqD z a))) := rfl
@[simp] theorem z_inS {x y : Str} : opB .in_ [.str x, .str y] Q u = Q (.bl (!(Builtin.Str.occurrences y x 0 y.length 1).isEmpty)) := rfl
@[simp] theorem z_notInS {x y : Str} : opB .notIn [.str x, .str y] Q u = Q (.bl (!(!(Builtin.Str.occurrences y x 0 y.length 1).isEmpty))) := rfl
@[simp] theorem z_sl0 : opB (.sl false false) [a] Q u = cutB a none none Q u := rfl
@[simp] theorem z_sl1 : opB (.sl true false) [a, .int i] Q u = cutB a (some i) none Q u := rfl
@[simp] theorem z_sl2 : opB (.sl false true) [a, .int i] Q u = cutB a none (some i) Q u := rfl
@[simp] theorem z_join {x : Str} : opB .join [.str x, a] Q u = bindO (seqD a) (fun es => bindO (strsD es) (fun ys => (ys.map (·.length)).sum + ys.length * x.length ≤ 16777216 ∧ Q (.str (Txt.join x ys))) ⟨⟩) ⟨⟩ := by
  show joinW [.str x, a] Q = _
  unfold bindO
  simp [joinW]
@[simp] theorem z_split {x y : Str} : opB .split [.str x, .str y] Q u = (((y.length == 0) = false ∧ x.length + 2 ≤ sizeLine) ∧ Q (.lst ((Txt.split x y).map D.str))) := rfl
@[simp] theorem z_rmpre {x y : Str} : opB .rmpre [.str x, .str y] Q u = (x.length ≤ sizeLine ∧ Q (.str (Txt.removeprefix x y))) := rfl
@[simp] theorem z_starts {x y : Str} : opB .starts [.str x, .str y] Q u = Q (.bl (Txt.startswith x y)) := rfl
@[simp] theorem z_index {x y : Str} : opB .index [.str x, .str y] Q u = bindO (Txt.index0 x y) (fun k => Q (.int (k : Nat))) ⟨⟩ := rfl
@[simp] theorem z_find {x y : Str} : opB .find [.str x, .str y] Q u = Q (.int (Txt.find x y)) := rfl
@[simp] theorem z_fldO {c : Nat} {x : Str} : opB (.fld x) [.obj c ds] Q u = bindO (fldIx c x) (fun k => bindO ds[k]? Q u) ⟨⟩ := by
  show fldW x (.obj c ds) Q = _
  unfold bindO fldW
  simp
@[simp] theorem z_all : opB .all [.lst ds] Q u = bindO (blsD ds) (fun bs => Q (.bl (bs.all id))) ⟨⟩ := by
  show allW _ _ = _
  unfold bindO allW
  simp
@[simp] theorem z_any : opB .any [.lst ds] Q u = bindO (blsD ds) (fun bs => Q (.bl (bs.any id))) ⟨⟩ := by
  show anyW _ _ = _
  unfold bindO anyW
  simp
@[simp] theorem z_sum : opB .sum [.lst ds] Q u = bindO (intsD ds) (fun bs => Q (.int bs.sum)) ⟨⟩ := by
  show sumW _ _ = _
  unfold bindO sumW
  simp
@[simp] theorem z_maxL : opB .maxL [.lst ds] Q u = bindO (intsD ds) (fun bs => bs ≠ [] ∧ Q (.int (maxL bs))) ⟨⟩ := by
  show maxW _ _ = _
  unfold bindO maxW
  simp
@[simp] theorem z_minL : opB .minL [.lst ds] Q u = bindO (intsD ds) (fun bs => bs ≠ [] ∧ Q (.int (minL bs))) ⟨⟩ := by
  show minW _ _ = _
  unfold bindO minW
  simp
@[simp] theorem z_isT {k : Bool} : opB .isT [.bl k] Q u = Q (.bl (decide (k = true))) := rfl
@[simp] theorem z_isF {k : Bool} : opB .isF [.bl k] Q u = Q (.bl (decide (k = false))) := rfl
@[simp] theorem z_isNT {k : Bool} : opB .isNT [.bl k] Q u = Q (.bl (!decide (k = true))) := rfl
@[simp] theorem z_isNF {k : Bool} : opB .isNF [.bl k] Q u = Q (.bl (!decide (k = false))) := rfl
@[simp] theorem z_rng1 : opB .rng1 [.int i] Q u = ((-(2 ^ 22) < i ∧ i < 2 ^ 22) ∧ Q (.lst (rngL 0 i))) := rfl
@[simp] theorem z_rng2 : opB .rng2 [.int i, .int j] Q u = ((-(2 ^ 22) < i ∧ i < 2 ^ 22 ∧ -(2 ^ 22) < j ∧ j < 2 ^ 22) ∧ Q (.lst (rngL i j))) := rfl
@[simp] theorem z_sub : opB .sub [.int i, .int j] Q u = Q (.int (i - j)) := rfl
@[simp] theorem z_mulI : opB .mul [.int i, .int j] Q u = (CMul i j ∧ Q (.int (i * j))) := rfl
@[simp] theorem z_mulL : opB .mul [.lst ds, .int j] Q u = ((0 ≤ j ∧ j ≤ 1000 ∧ ds.length ≤ 1000) ∧ Q (.lst (List.replicate j.toNat ds).flatten)) := rfl
@[simp] theorem z_fdiv : opB .fdiv [.int i, .int j] Q u = ((0 < j ∧ j.natAbs.log2 < 9000) ∧ Q (.int (i / j))) := rfl
@[simp] theorem z_mod : opB .mod [.int i, .int j] Q u = (0 < j ∧ Q (.int (i % j))) := rfl
@[simp] theorem z_pow : opB .pow [.int i, .int j] Q u = ((0 ≤ j ∧ j ≤ 1000000 ∧ i.natAbs < 2 ^ 64) ∧ Q (.int (i ^ j.toNat))) := rfl
@[simp] theorem z_neg : opB .neg [.int i] Q u = Q (.int (-i)) := rfl
@[simp] theorem z_eq : opB .eq [a, b] Q u = (eqOk a b = true ∧ Q (.bl (eqD a b))) := rfl
@[simp] theorem z_ne : opB .ne [a, b] Q u = (eqOk a b = true ∧ Q (.bl (!eqD a b))) := rfl
@[simp] theorem z_lt : opB .lt [.int i, .int j] Q u = Q (.bl (decide (i < j))) := rfl
@[simp] theorem z_le : opB .le [.int i, .int j] Q u = Q (.bl (decide (i ≤ j))) := rfl
@[simp] theorem z_gt : opB .gt [.int i, .int j] Q u = Q (.bl (decide (j < i))) := rfl
@[simp] theorem z_ge : opB .ge [.int i, .int j] Q u = Q (.bl (decide (j ≤ i))) := rfl
@[simp] theorem z_isN : opB .isN [a] Q u = Q (.bl (isNonD a)) := rfl
@[simp] theorem z_isNotN : opB .isNotN [a] Q u = Q (.bl (!isNonD a)) := rfl
@[simp] theorem z_in : opB .in_ [a, .lst ds] Q u = ((flatD 50 a = true ∧ flatDs 50 ds = true) ∧ Q (.bl (ds.any fun z => eqD z a))) := rfl
@[simp] theorem z_notIn : opB .notIn [a, .lst ds] Q u = ((flatD 50 a = true ∧ flatDs 50 ds = true) ∧ Q (.bl (!ds.any fun z => eqD z a))) := rfl
@[simp] theorem z_lenL : opB .len [.lst ds] Q u = Q (.int ds.length) := rfl
@[simp] theorem z_lenT : opB .len [.tup ds] Q u = Q (.int ds.length) := rfl
@[simp] theorem z_lenR : opB .len [.scr ds] Q u = Q (.int ds.length) := rfl
@[simp] theorem z_lenS {x : Str} : opB .len [.str x] Q u = (x.length ≤ sizeLine ∧ Q (.int x.length)) := rfl
@[simp] theorem z_abs : opB .abs [.int i] Q u = Q (.int (if i < 0 then -i else i)) := rfl
@[simp] theorem z_max2 : opB .max2 [.int i, .int j] Q u = Q (.int (if j > i then j else i)) := rfl
@[simp] theorem z_min2 : opB .min2 [.int i, .int j] Q u = Q (.int (if j < i then j else i)) := rfl
@[simp] theorem z_toIntI : opB .toInt [.int i] Q u = Q (.int i) := rfl
@[simp] theorem z_toIntB {k : Bool} : opB .toInt [.bl k] Q u = Q (.int (if k then 1 else 0)) := rfl
@[simp] theorem z_toStr : opB .toStr [.int i] Q u = (i.natAbs.log2 < 1920 ∧ Q (.str (digS i))) := rfl
@[simp] theorem z_repr : opB .repr [a] Q u = bindO (reprD a) (fun x => Q (.str x)) ⟨⟩ := rfl
@[simp] theorem z_toListL : opB .toList [.lst ds] Q u = Q (.lst ds) := by
  show toListW (.lst ds) Q = _
  simp [toListW]
@[simp] theorem z_toListT : opB .toList [.tup ds] Q u = Q (.lst ds) := by
  show toListW (.tup ds) Q = _
  simp [toListW]
@[simp] theorem z_toListC : opB .toList [.scr ds] Q u = Q (.lst ds) := by
  show toListW (.scr ds) Q = _
  simp [toListW]
@[simp] theorem z_toListS {x : Str} : opB .toList [.str x] Q u = (x.length ≤ sizeLine ∧ Q (.lst (x.cps.toList.map fun c => D.str ⟨#[c]⟩))) := rfl
@[simp] theorem z_toTuple : opB .toTuple [a] Q u = bindO (seqD a) (fun es => Q (.tup es)) ⟨⟩ := rfl
@[simp] theorem z_itemL : opB .item [.lst ds, .int i] Q u = bindO (atI ds i) Q u := by
  show itemW [.lst ds, .int i] Q = _
  unfold bindO itemW
  simp
@[simp] theorem z_itemT : opB .item [.tup ds, .int i] Q u = bindO (atI ds i) Q u := by
  show itemW [.tup ds, .int i] Q = _
  unfold bindO itemW
  simp
@[simp] theorem z_itemC : opB .item [.scr ds, .int i] Q u = bindO (atI ds i) Q u := by
  show itemW [.scr ds, .int i] Q = _
  unfold bindO itemW
  simp
@[simp] theorem z_itemS {x : Str} : opB .item [.str x, .int i] Q u = bindO (atI x.cps.toList i) (fun c => x.length ≤ sizeLine ∧ Q (.str ⟨#[c]⟩)) ⟨⟩ := by
  show itemW [.str x, .int i] Q = _
  unfold bindO itemW
  simp only [eq_iff_iff]
  constructor
  · rintro ⟨c, h1, h2, h3⟩; exact ⟨c, h2, h1, h3⟩
  · rintro ⟨c, h1, h2, h3⟩; exact ⟨c, h2, h1, h3⟩
@[simp] theorem z_isi {ts : List Ty} {t : Bool} : opB (.isi ts t) [a] Q u = (tyOk a = true ∧ Q (.bl (ts.any (tyD a)))) := rfl
end
/-! the classes' fields -/
@[simp] theorem fl_0 : (fldsOf 0).length = 4 := by decide +kernel
@[simp] theorem fx_0_0 : fldIx 0 (Str.ofString "own_base") = some 0 := by decide +kernel
@[simp] theorem fx_0_1 : fldIx 0 (Str.ofString "own_digits") = some 1 := by decide +kernel
@[simp] theorem fx_0_2 : fldIx 0 (Str.ofString "own_bars") = some 2 := by decide +kernel
@[simp] theorem fx_0_3 : fldIx 0 (Str.ofString "own_parts") = some 3 := by decide +kernel
@[simp] theorem fl_1 : (fldsOf 1).length = 4 := by decide +kernel
@[simp] theorem fx_1_0 : fldIx 1 (Str.ofString "own_terms") = some 0 := by decide +kernel
@[simp] theorem fx_1_1 : fldIx 1 (Str.ofString "own_target") = some 1 := by decide +kernel
@[simp] theorem fx_1_2 : fldIx 1 (Str.ofString "found") = some 2 := by decide +kernel
@[simp] theorem fx_1_3 : fldIx 1 (Str.ofString "opened") = some 3 := by decide +kernel
@[simp] theorem fl_2 : (fldsOf 2).length = 4 := by decide +kernel
@[simp] theorem fx_2_0 : fldIx 2 (Str.ofString "scheme") = some 0 := by decide +kernel
@[simp] theorem fx_2_1 : fldIx 2 (Str.ofString "came") = some 1 := by decide +kernel
@[simp] theorem fx_2_2 : fldIx 2 (Str.ofString "parts") = some 2 := by decide +kernel
@[simp] theorem fx_2_3 : fldIx 2 (Str.ofString "best") = some 3 := by decide +kernel
@[simp] theorem fl_3 : (fldsOf 3).length = 6 := by decide +kernel
@[simp] theorem fx_3_0 : fldIx 3 (Str.ofString "prices") = some 0 := by decide +kernel
@[simp] theorem fx_3_1 : fldIx 3 (Str.ofString "ways") = some 1 := by decide +kernel
@[simp] theorem fx_3_2 : fldIx 3 (Str.ofString "before") = some 2 := by decide +kernel
@[simp] theorem fx_3_3 : fldIx 3 (Str.ofString "costs") = some 3 := by decide +kernel
@[simp] theorem fx_3_4 : fldIx 3 (Str.ofString "best") = some 4 := by decide +kernel
@[simp] theorem fx_3_5 : fldIx 3 (Str.ofString "nexts") = some 5 := by decide +kernel
@[simp] theorem fl_4 : (fldsOf 4).length = 5 := by decide +kernel
@[simp] theorem fx_4_0 : fldIx 4 (Str.ofString "scheme") = some 0 := by decide +kernel
@[simp] theorem fx_4_1 : fldIx 4 (Str.ofString "bottom") = some 1 := by decide +kernel
@[simp] theorem fx_4_2 : fldIx 4 (Str.ofString "first") = some 2 := by decide +kernel
@[simp] theorem fx_4_3 : fldIx 4 (Str.ofString "most") = some 3 := by decide +kernel
@[simp] theorem fx_4_4 : fldIx 4 (Str.ofString "ways") = some 4 := by decide +kernel
@[simp] theorem fl_100 : (fldsOf 100).length = 0 := by decide +kernel
@[simp] theorem fl_101 : (fldsOf 101).length = 1 := by decide +kernel
@[simp] theorem fx_101_0 : fldIx 101 (Str.ofString "value") = some 0 := by decide +kernel
@[simp] theorem fl_102 : (fldsOf 102).length = 1 := by decide +kernel
@[simp] theorem fx_102_0 : fldIx 102 (Str.ofString "value") = some 0 := by decide +kernel
@[simp] theorem fl_103 : (fldsOf 103).length = 1 := by decide +kernel
@[simp] theorem fx_103_0 : fldIx 103 (Str.ofString "value") = some 0 := by decide +kernel
@[simp] theorem fl_104 : (fldsOf 104).length = 1 := by decide +kernel
@[simp] theorem fx_104_0 : fldIx 104 (Str.ofString "row") = some 0 := by decide +kernel
@[simp] theorem fl_105 : (fldsOf 105).length = 1 := by decide +kernel
@[simp] theorem fx_105_0 : fldIx 105 (Str.ofString "text") = some 0 := by decide +kernel
@[simp] theorem fl_106 : (fldsOf 106).length = 1 := by decide +kernel
@[simp] theorem fx_106_0 : fldIx 106 (Str.ofString "number") = some 0 := by decide +kernel
@[simp] theorem fl_107 : (fldsOf 107).length = 1 := by decide +kernel
@[simp] theorem fx_107_0 : fldIx 107 (Str.ofString "length") = some 0 := by decide +kernel
@[simp] theorem fl_108 : (fldsOf 108).length = 1 := by decide +kernel
@[simp] theorem fx_108_0 : fldIx 108 (Str.ofString "value") = some 0 := by decide +kernel
@[simp] theorem fl_109 : (fldsOf 109).length = 1 := by decide +kernel
@[simp] theorem fx_109_0 : fldIx 109 (Str.ofString "term") = some 0 := by decide +kernel
@[simp] theorem fl_110 : (fldsOf 110).length = 1 := by decide +kernel
@[simp] theorem fx_110_0 : fldIx 110 (Str.ofString "rows") = some 0 := by decide +kernel
@[simp] theorem fl_111 : (fldsOf 111).length = 1 := by decide +kernel
@[simp] theorem fx_111_0 : fldIx 111 (Str.ofString "state") = some 0 := by decide +kernel
@[simp] theorem fl_112 : (fldsOf 112).length = 1 := by decide +kernel
@[simp] theorem fx_112_0 : fldIx 112 (Str.ofString "reading") = some 0 := by decide +kernel
@[simp] theorem fl_113 : (fldsOf 113).length = 1 := by decide +kernel
@[simp] theorem fx_113_0 : fldIx 113 (Str.ofString "prices") = some 0 := by decide +kernel
@[simp] theorem fl_114 : (fldsOf 114).length = 1 := by decide +kernel
@[simp] theorem fx_114_0 : fldIx 114 (Str.ofString "value") = some 0 := by decide +kernel
@[simp] theorem fl_115 : (fldsOf 115).length = 1 := by decide +kernel
@[simp] theorem fx_115_0 : fldIx 115 (Str.ofString "value") = some 0 := by decide +kernel
@[simp] theorem fl_116 : (fldsOf 116).length = 2 := by decide +kernel
@[simp] theorem fx_116_0 : fldIx 116 (Str.ofString "top") = some 0 := by decide +kernel
@[simp] theorem fx_116_1 : fldIx 116 (Str.ofString "bottom") = some 1 := by decide +kernel
@[simp] theorem fl_117 : (fldsOf 117).length = 1 := by decide +kernel
@[simp] theorem fx_117_0 : fldIx 117 (Str.ofString "word") = some 0 := by decide +kernel
@[simp] theorem fl_118 : (fldsOf 118).length = 1 := by decide +kernel
@[simp] theorem fx_118_0 : fldIx 118 (Str.ofString "name") = some 0 := by decide +kernel
@[simp] theorem fl_119 : (fldsOf 119).length = 1 := by decide +kernel
@[simp] theorem fx_119_0 : fldIx 119 (Str.ofString "line") = some 0 := by decide +kernel
@[simp] theorem fl_120 : (fldsOf 120).length = 1 := by decide +kernel
@[simp] theorem fx_120_0 : fldIx 120 (Str.ofString "digit") = some 0 := by decide +kernel
@[simp] theorem fl_121 : (fldsOf 121).length = 1 := by decide +kernel
@[simp] theorem fx_121_0 : fldIx 121 (Str.ofString "name") = some 0 := by decide +kernel
@[simp] theorem fl_122 : (fldsOf 122).length = 1 := by decide +kernel
@[simp] theorem fx_122_0 : fldIx 122 (Str.ofString "value") = some 0 := by decide +kernel
@[simp] theorem fl_123 : (fldsOf 123).length = 2 := by decide +kernel
@[simp] theorem fx_123_0 : fldIx 123 (Str.ofString "one") = some 0 := by decide +kernel
@[simp] theorem fx_123_1 : fldIx 123 (Str.ofString "other") = some 1 := by decide +kernel
@[simp] theorem fl_124 : (fldsOf 124).length = 1 := by decide +kernel
@[simp] theorem fx_124_0 : fldIx 124 (Str.ofString "name") = some 0 := by decide +kernel
@[simp] theorem fl_125 : (fldsOf 125).length = 1 := by decide +kernel
@[simp] theorem fx_125_0 : fldIx 125 (Str.ofString "number") = some 0 := by decide +kernel
@[simp] theorem fl_126 : (fldsOf 126).length = 1 := by decide +kernel
@[simp] theorem fx_126_0 : fldIx 126 (Str.ofString "name") = some 0 := by decide +kernel
@[simp] theorem fl_127 : (fldsOf 127).length = 1 := by decide +kernel
@[simp] theorem fx_127_0 : fldIx 127 (Str.ofString "value") = some 0 := by decide +kernel
@[simp] theorem fl_128 : (fldsOf 128).length = 1 := by decide +kernel
@[simp] theorem fx_128_0 : fldIx 128 (Str.ofString "value") = some 0 := by decide +kernel
@[simp] theorem fl_129 : (fldsOf 129).length = 1 := by decide +kernel
@[simp] theorem fx_129_0 : fldIx 129 (Str.ofString "value") = some 0 := by decide +kernel
@[simp] theorem fl_130 : (fldsOf 130).length = 1 := by decide +kernel
@[simp] theorem fx_130_0 : fldIx 130 (Str.ofString "most") = some 0 := by decide +kernel
@[simp] theorem fl_131 : (fldsOf 131).length = 0 := by decide +kernel
end Mp
namespace Mp
open PySem PySem.Spec L2
/-! the helpers that the laws share -/
def fnCell (a b : Int) : Fn := ⟨2, 2, [.ite (.tb (.op .lt [.brw 1, .op .len [.brw 0]])) [.ret (.op .item [.brw 0, .brw 1])] [],
    .ret (.op .add [.op .mul [.con (.int a), .brw 1], .con (.int b)])], false⟩
def fnBox : Fn := ⟨1, 1, [.ret (.cel (.lst [.op .max2 [.con (.int 0), .op .sub [.brw 0, .op .pow [.con (.int 10), .con (.int 18)]]], .op .mod [.op .toInt [.brw 0], .con (.int 2147483629)], .con (.int 0)]))], false⟩
def fnTake (a b c d : Int) : Fn := ⟨2, 4, [.ite (.tb (.op .gt [.op .item [.brw 0, .con (.int 0)], .con (.int 0)])) [.asg (.nm 2) (.op .mod [.op .toInt [.op .item [.brw 0, .con (.int 0)]], .brw 1]),
    .setI 0 (.con (.int 0)) (.op .fdiv [.op .item [.brw 0, .con (.int 0)], .brw 1]),
    .ret (.var 2)] [],
    .setI 0 (.con (.int 2)) (.op .add [.op .item [.brw 0, .con (.int 2)], .con (.int 1)]),
    .asg (.nm 3) (.op .mod [.op .pow [.op .toInt [.op .add [.op .add [.op .item [.brw 0, .con (.int 1)], .op .mul [.con (.int a), .op .item [.brw 0, .con (.int 2)]]], .con (.int b)]], .con (.int 5)], .con (.int 2147483647)]),
    .asg (.nm 3) (.op .mod [.op .pow [.op .toInt [.op .add [.brw 3, .op .mul [.con (.int c), .op .item [.brw 0, .con (.int 2)]]]], .con (.int 3)], .con (.int 2147483587)]),
    .ret (.op .mod [.op .toInt [.op .fdiv [.brw 3, .con (.int d)]], .brw 1])], false⟩
def fnMixed (t : Nat) : Fn := ⟨2, 4, [.asgO 3 (.op .toList [.brw 1]),
    .ret (.lc .range1 [.op .len [.brw 1]] (.nm 2) [] (.pop 3 (.call t [.var 0, .op .len [.brw 3]] [.inl 0, .inl 1])) [2])], false⟩
/-- a box at l with k draws left at least -/
def Bx (k : Nat) (h : List CO) (l : Nat) : Prop := ∃ a b c : Int, h[l]? = some (.lst [.int a, .int b, .int c]) ∧ 0 ≤ a ∧ 0 ≤ b ∧ b < 2147483629 ∧ 0 ≤ c ∧ c + k ≤ 2 ^ 40
theorem Bx.mono {k j : Nat} {h : List CO} {l : Nat} (b : Bx k h l) (hj : j ≤ k) : Bx j h l := by
  obtain ⟨a, b, c, e, h1, h2, h3, h4, h5⟩ := b
  exact ⟨a, b, c, e, h1, h2, h3, h4, by omega⟩
theorem Bx.app {k : Nat} {h g : List CO} {l : Nat} (b : Bx k h l) : Bx k (h ++ g) l := by
  obtain ⟨a, b, c, e, h1⟩ := b
  exact ⟨a, b, c, by rw [List.getElem?_append_left (lt_of_get e)]; exact e, h1⟩
/-- nothing but the box at l has changed -/
def Ot (l : Nat) (h h' : List CO) : Prop := h'.length = h.length ∧ ∀ j, j ≠ l → h'[j]? = h[j]?
theorem Ot.refl {l : Nat} {h : List CO} : Ot l h h := ⟨rfl, fun _ _ => rfl⟩
theorem Ot.trans {l : Nat} {h h' h2 : List CO} (a : Ot l h h') (b : Ot l h' h2) : Ot l h h2 := ⟨b.1.trans a.1, fun j hj => (b.2 j hj).trans (a.2 j hj)⟩
theorem Ot.set {l : Nat} {h : List CO} {c : CO} : Ot l h (h.set l c) := ⟨List.length_set, fun j hj => List.getElem?_set_ne (Ne.symm hj)⟩
@[simp] theorem arr_nil {ds : List D} : arr [] ds = [] := rfl
@[simp] theorem arr_inl {i : Nat} {ar : List (Sum Nat D)} {ds : List D} : arr (.inl i :: ar) ds = ds.getD i .non :: arr ar ds := rfl
@[simp] theorem arr_inr {d : D} {ar : List (Sum Nat D)} {ds : List D} : arr (.inr d :: ar) ds = d :: arr ar ds := rfl
/-- a call, as an equation -/
theorem CC_eq {P : Nat → Option Fn} {n f : Nat} {fn : Fn} {ds : List D} {h : List CO} {Q : D → List CO → Prop} {X : Nat → List D → List CO → Prop} (hf : P f = some fn) (hn : 0 < n) (hl : ds.length = fn.np) :
    CC P n f ds h Q X = wSs (CC P (n - 1)) fn.body ⟨startE fn ds, h⟩ { nx := fun st => Q .non st.h, rt := fun d st => Q d st.h, bk := fun _ => False, ct := fun _ => False, ex := fun c fs st => X c fs st.h } := by
  cases n with
  | zero => cases hn
  | succ n =>
    show (match P f with | some fn => (ds.length = fn.np ∧ wSs (CC P n) fn.body ⟨startE fn ds, h⟩ { nx := fun st => Q .non st.h, rt := fun d st => Q d st.h, bk := fun _ => False, ct := fun _ => False, ex := fun c fs st => X c fs st.h }) | none => False) = _
    rw [hf]
    exact propext ⟨fun z => z.2, fun z => ⟨hl, z⟩⟩
/-- a comprehension of pure turns -/
theorem lcLoop_pure {turn : D → Stt → (List D → Stt → Prop) → Prop} {g : D → List D} {st : Stt} : ∀ {items acc : List D} {Q : List D → Stt → Prop}, (∀ x ∈ items, ∀ R, turn x st R = R (g x) st) → lcLoop turn items acc st Q = Q (acc ++ items.flatMap g) st
  | [], acc, Q, _ => by simp [lcLoop]
  | x :: xs, acc, Q, h => by
    show turn x st (fun r st1 => lcLoop turn xs (acc ++ r) st1 Q) = _
    rw [h x (by simp)]
    show lcLoop turn xs (acc ++ g x) st Q = _
    rw [lcLoop_pure fun y hy => h y (by simp [hy])]
    simp
theorem lcB_pure {turn : D → Stt → (List D → Stt → Prop) → Prop} {st : Stt} {items : List D} {Q : List D → Stt → Prop} {u : Hd turn} {v : Hd Q} (g : D → List D) (h : ∀ x ∈ items, ∀ R, turn x st R = R (g x) st) : lcB turn items st Q u v = Q (items.flatMap g) st := by
  show lcLoop turn items [] st Q = _
  rw [lcLoop_pure h]
  rfl
theorem flatMap_one {f : D → D} {items : List D} : items.flatMap (fun x => [f x]) = items.map f := by
  induction items with
  | nil => rfl
  | cons x xs ih => simp [ih]
theorem lcB_map {turn : D → Stt → (List D → Stt → Prop) → Prop} {st : Stt} {items : List D} {Q : List D → Stt → Prop} {u : Hd turn} {v : Hd Q} (f : D → D) (h : ∀ x ∈ items, ∀ R, turn x st R = R [f x] st) : lcB turn items st Q u v = Q (items.map f) st := by
  rw [lcB_pure (fun x => [f x]) h, flatMap_one]
section
variable {P : Nat → Option Fn} {n f : Nat} {h : List CO} {Q : D → List CO → Prop} {X : Nat → List D → List CO → Prop}
theorem cell_ok {a b : Int} {ns : List Int} {k : Int} (hf : P f = some (fnCell a b)) (hn : 1 ≤ n) (hk : 0 ≤ k) (hk2 : k < 2 ^ 20) (q : ∀ i, Q (.int i) h) : CC P n f [.scr (ns.map D.int), .int k] h Q X := by
  refine CC_of hf hn rfl ?_
  simp [fnCell, startE, ]
  by_cases hl : k < (ns.length : Int)
  · obtain ⟨j, rfl⟩ := Int.eq_ofNat_of_zero_le hk
    have hj : j < ns.length := by omega
    rw [if_pos hl]
    refine ⟨.int ns[j], ?_, q _⟩
    unfold atI ixN
    simp [hj]
  · rw [if_neg hl]
    exact ⟨.inr ⟨by omega, by omega⟩, q _⟩
theorem box_ok {i : Int} (hf : P f = some fnBox) (hn : 1 ≤ n) (q : ∀ h', Bx (2 ^ 39) h' h.length → h'.length = h.length + 1 → (∀ j, j < h.length → h'[j]? = h[j]?) → Q (.cell h.length) h') : CC P n f [.int i] h Q X := by
  refine CC_of hf hn rfl ?_
  simp [fnBox, startE, ]
  refine q _ ⟨if 1000000000000000000 < i then i - 1000000000000000000 else 0, i % 2147483629, 0, by simp, ?_, Int.emod_nonneg _ (by decide), Int.emod_lt_of_pos _ (by decide), by decide, by decide⟩ (by simp) (fun j hj => List.getElem?_append_left hj)
  split <;> omega
theorem atI3 {a b c : D} : atI [a, b, c] 0 = some a ∧ atI [a, b, c] 1 = some b ∧ atI [a, b, c] 2 = some c := ⟨rfl, rfl, rfl⟩
theorem take_ok {a b c d m : Int} {l k : Nat} (hf : P f = some (fnTake a b c d)) (hn : 1 ≤ n) (ha : 0 ≤ a) (ha2 : a < 2 ^ 20) (hb : 0 ≤ b) (hb2 : b < 2 ^ 20) (hc : 0 ≤ c) (hc2 : c < 2 ^ 20) (hd : 0 < d) (hd2 : d < 2 ^ 20) (hm : 0 < m) (hm2 : m.natAbs.log2 < 9000)
    (hx : Bx (k + 1) h l) (q : ∀ i h', 0 ≤ i → i < m → Bx k h' l → Ot l h h' → Q (.int i) h') : CC P n f [.cell l, .int m] h Q X := by
  refine CC_of hf hn rfl ?_
  obtain ⟨x, y, z, e, h1, h2, h3, h4, h5⟩ := hx
  have hl : l < h.length := lt_of_get e
  have hv := view_cell e
  by_cases hx0 : 0 < x
  · simp [fnTake, startE, hv, atI3, hx0, hm, hm2, e, ixN]
    refine q _ _ (Int.emod_nonneg _ (by omega)) (Int.emod_lt_of_pos _ hm) ⟨x / m, y, z, by simp [hl], Int.ediv_nonneg h1 (by omega), h2, h3, h4, by omega⟩ Ot.set
  · have hx1 : x ≤ 0 := by omega
    have hv2 : ∀ ds, view (h.set l (.lst ds)) (.cell l) = .lst ds := fun ds => view_cell (by simp [hl])
    simp [fnTake, startE, hv, hv2, atI3, hx0, hx1, hm, hm2, hd, e, ixN]
    have b1 : 0 ≤ a * (z + 1) := Int.mul_nonneg ha (by omega)
    have b2 : a * (z + 1) ≤ 2 ^ 20 * 2 ^ 40 := Int.mul_le_mul (by omega) (by omega) (by omega) (by decide)
    have b3 : 0 ≤ c * (z + 1) := Int.mul_nonneg hc (by omega)
    have b4 : c * (z + 1) ≤ 2 ^ 20 * 2 ^ 40 := Int.mul_le_mul (by omega) (by omega) (by omega) (by decide)
    generalize a * (z + 1) = A at *
    generalize c * (z + 1) = B at *
    have m1 := Int.emod_nonneg ((y + A + b) ^ 5) (show (2147483647 : Int) ≠ 0 by decide)
    have m2 := Int.emod_lt_of_pos ((y + A + b) ^ 5) (show (0 : Int) < 2147483647 by decide)
    generalize (y + A + b) ^ 5 % 2147483647 = C at *
    have lg : d.natAbs.log2 < 9000 := by
      have : d.natAbs < 2 ^ 20 := by omega
      by_cases h0 : d.natAbs = 0
      · rw [h0]; decide
      · have := (Nat.log2_lt h0).mpr this
        omega
    refine ⟨.inl ⟨by omega, by omega⟩, by omega, .inl ⟨by omega, by omega⟩, by omega, lg, ?_⟩
    exact q _ _ (Int.emod_nonneg _ (by omega)) (Int.emod_lt_of_pos _ hm) ⟨x, y, z + 1, by simp [hl], h1, h2, h3, by omega, by omega⟩ Ot.set
theorem popAt_of {ds : List D} {i : Int} (h0 : 0 ≤ i) (h1 : i < ds.length) : ∃ j, ∃ hj : j < ds.length, popAt ds i = some (ds[j], ds.eraseIdx j) := by
  obtain ⟨j, rfl⟩ := Int.eq_ofNat_of_zero_le h0
  have hj : j < ds.length := by omega
  refine ⟨j, hj, ?_⟩
  unfold popAt ixN
  simp [hj]
theorem log2_lt' {n : Int} {k : Nat} (h : n.natAbs < 2 ^ k) : n.natAbs.log2 ≤ k := by
  by_cases h0 : n.natAbs = 0
  · rw [h0]; exact Nat.zero_le _
  · exact Nat.le_of_lt ((Nat.log2_lt h0).mpr h)
theorem log2_lt {n : Int} {k : Nat} (h : n.natAbs < 2 ^ k) (hk : k < 9000) : n.natAbs.log2 < 9000 := by
  by_cases h0 : n.natAbs = 0
  · rw [h0]; decide
  · have := (Nat.log2_lt h0).mpr h
    omega
theorem erase_perm {α : Type} : ∀ (l : List α) (i : Nat) (h : i < l.length), (l[i] :: l.eraseIdx i).Perm l
  | a :: l, 0, _ => .refl _
  | a :: l, i + 1, h => by
    have := erase_perm l i (by simpa using h)
    exact (List.Perm.swap _ _ _).trans (this.cons a)
/-- what take promises, to the laws' other helpers -/
def TakeP (P : Nat → Option Fn) (t d0 : Nat) : Prop := ∀ (n : Nat) (h : List CO) (Q : D → List CO → Prop) (X : Nat → List D → List CO → Prop) (m : Int) (l k : Nat), d0 ≤ n → 0 < m → m.natAbs.log2 < 9000 → Bx (k + 1) h l →
  (∀ i h', 0 ≤ i → i < m → Bx k h' l → Ot l h h' → Q (.int i) h') → CC P n t [.cell l, .int m] h Q X
theorem mixed_ok {t l k : Nat} {ds : List D} (hf : P f = some (fnMixed t)) (tk : TakeP P t 1) (hn : 2 ≤ n) (hx : Bx (k + ds.length) h l) (hl : ds.length ≤ 1000) (q : ∀ es h', es.Perm ds → Bx k h' l → Ot l h h' → Q (.lst es) h') : CC P n f [.cell l, .lst ds] h Q X := by
  refine CC_of hf (by omega) rfl ?_
  simp [fnMixed, startE, itD]
  have hz : (-16777216 : Int) < ds.length ∧ (ds.length : Int) < 16777216 := by omega
  simp [hz]
  refine ⟨by rw [sizeLine_eq]; omega, ?_⟩
  refine lcB_ok (CC_mono _) (fun i acc st => ∃ left h', st = ⟨[.shr (.cell l), .shr (.lst ds), .un, .own (.lst left)], h'⟩ ∧ (acc ++ left).Perm ds ∧ acc.length = i ∧ Bx (k + left.length) h' l ∧ Ot l h h') ⟨ds, h, rfl, by simp, rfl, hx, Ot.refl⟩ ?_ ?_
  · rintro i x acc st hi ⟨left, h', rfl, pm, la, bx, ot⟩
    have hil : i < ds.length := by simpa using lt_of_get hi
    have ll : left.length = ds.length - i := by
      have := pm.length_eq
      rw [List.length_append] at this
      omega
    simp
    refine callB_of (tk _ _ _ _ _ l (k + left.length - 1) (by omega) (by omega) (log2_lt (k := 20) (by omega) (by decide)) (bx.mono (by omega)) fun j h2 h20 h21 bx2 ot2 => ?_)
    obtain ⟨p, hp, ep⟩ := popAt_of h20 h21
    simp [ep]
    refine ⟨by rw [sizeLine_eq]; omega, ?_⟩
    refine Rcl_of ⟨left.eraseIdx p, h2, rfl, ?_, by simp [la], bx2.mono ?_, ot.trans ot2⟩
    · refine List.Perm.trans ?_ pm
      rw [List.append_assoc]
      exact (erase_perm left p hp).append_left acc
    · rw [List.length_eraseIdx_of_lt hp]
      omega
  · rintro acc st ⟨left, h', rfl, pm, la, bx, ot⟩
    have ll : left = [] := by
      have := pm.length_eq
      rw [List.length_append, la] at this
      simp at this
      exact this
    subst ll
    rw [List.append_nil] at pm
    exact q acc h' pm (bx.mono (by simp)) ot
end
theorem atI_all {p : D → Prop} {es : List D} {i : Int} (h : ∀ d ∈ es, p d) (h0 : 0 ≤ i) (h1 : i < es.length) : ∃ d, atI es i = some d ∧ p d := by
  obtain ⟨j, rfl⟩ := Int.eq_ofNat_of_zero_le h0
  have hj : j < es.length := by omega
  refine ⟨es[j], ?_, h _ (List.getElem_mem hj)⟩
  unfold atI ixN
  simp [hj]
theorem itD_range1 {n : Int} (h0 : -16777216 < n) (h1 : n < 16777216) : itD .range1 [.int n] = some ((List.range n.toNat).map fun (k : Nat) => D.int k) := if_pos ⟨h0, h1⟩
theorem cutL_map {α β : Type} {f : α → β} {l : List α} {lo hi : Option Int} : cutL (l.map f) lo hi = (cutL l lo hi).map f := by
  unfold cutL
  rw [List.map_take, List.map_drop, List.length_map]
theorem cutL_mem {α : Type} {l : List α} {lo hi : Option Int} {x : α} (h : x ∈ cutL l lo hi) : x ∈ l := List.mem_of_mem_drop (List.mem_of_mem_take h)
theorem cutL_len {α : Type} (l : List α) (lo hi : Option Int) : (cutL l lo hi).length ≤ l.length := by
  unfold cutL
  rw [List.length_take, List.length_drop]
  omega
end Mp
namespace Mp
open PySem PySem.Spec L2 TL
/-! texts, sign by sign -/
/-- without a minus at the head -/
def unm : List Nat → List Nat
  | 45 :: r => r
  | l => l
theorem unm_cons {r : List Nat} : unm (45 :: r) = r := rfl
theorem unm_ne {c : Nat} {r : List Nat} (h : c ≠ 45) : unm (c :: r) = c :: r := by
  unfold unm
  split
  · rename_i e; cases e; exact absurd rfl h
  · rfl
theorem tl_minus : tl (Str.ofString "-") = [45] := by decide +kernel
theorem subAt_tl (x y : Str) (i : Nat) : Builtin.Str.subAt x y i = decide (((tl x).drop i).take y.length = tl y) := by
  unfold Builtin.Str.subAt
  have e : (x.cps.extract i (i + y.length)).toList = ((tl x).drop i).take y.length := by
    simp [tl]
  rw [Bool.eq_iff_iff]
  simp only [beq_iff_eq, decide_eq_true_eq]
  rw [← e]
  exact ⟨fun h => by rw [h], fun h => Array.toList_inj.mp h⟩
theorem rmpre_tl (w : Str) : tl (Txt.removeprefix w "-") = unm (tl w) := by
  unfold Txt.removeprefix
  rw [subAt_tl]
  have l1 : (Str.ofString "-").length = 1 := by decide +kernel
  show tl (Txt.affix w (if decide (((tl w).drop 0).take (Str.ofString "-").length = tl (Str.ofString "-")) = true then some ((Str.ofString "-").length, w.length) else none)) = _
  rw [l1, tl_minus, List.drop_zero]
  cases hw : tl w with
  | nil =>
    simp [Txt.affix, unm, hw]
  | cons c r =>
    by_cases hc : c = 45
    · subst hc
      simp only [List.take_succ_cons, List.take_zero, decide_true, if_true, Txt.affix, unm_cons]
      have hl : w.length = r.length + 1 := by rw [len_tl, hw]; rfl
      have hne : ¬ (w.length - 1 == w.length) = true := by simp [hl]
      rw [if_neg hne, tl_strSub, hw, hl]
      simp
    · rw [unm_ne hc]
      simp [Txt.affix, hc, hw]
/-- the digit that a word writes -/
def digL : List Nat → Option Int
  | [c] => if 48 ≤ c ∧ c ≤ 57 then some ((c : Int) - 48) else none
  | [m, c] => if m = 45 ∧ 49 ≤ c ∧ c ≤ 57 then some (48 - (c : Int)) else none
  | _ => none
def optD : Option Int → D
  | none => .non
  | some i => .int i
theorem ten_tl : tl (Str.ofString "0123456789") = [48, 49, 50, 51, 52, 53, 54, 55, 56, 57] := by decide +kernel
theorem one_of {x : Str} {c : Nat} (h : tl x = [c]) : x = ⟨#[c]⟩ := ext_tl h
theorem found_ten {x : Str} {c : Nat} (h : tl x = [c]) : (Builtin.Str.occurrences (Str.ofString "0123456789") x 0 (Str.ofString "0123456789").length 1).isEmpty = !decide (48 ≤ c ∧ c ≤ 57) := by
  rw [one_of h]
  have e := PySem.StrLaws.found_one (Str.ofString "0123456789") c
  have e2 : decide (c ∈ (Str.ofString "0123456789").cps.toList) = decide (48 ≤ c ∧ c ≤ 57) := by
    have := ten_tl
    unfold tl at this
    rw [this]
    simp only [decide_eq_decide, List.mem_cons, List.not_mem_nil, or_false]
    omega
  rw [e2] at e
  rw [← e]
  simp
theorem index_ten {x : Str} {c : Nat} (h : tl x = [c]) (h1 : 48 ≤ c) (h2 : c ≤ 57) : Txt.index0 (Str.ofString "0123456789") x = some (c - 48) := by
  rw [one_of h]
  have : c = 48 ∨ c = 49 ∨ c = 50 ∨ c = 51 ∨ c = 52 ∨ c = 53 ∨ c = 54 ∨ c = 55 ∨ c = 56 ∨ c = 57 := by omega
  rcases this with rfl | rfl | rfl | rfl | rfl | rfl | rfl | rfl | rfl | rfl <;> decide +kernel
theorem eq_str {x y : Str} : (x = y) ↔ tl x = tl y := ⟨fun h => by rw [h], ext_tl⟩
theorem tl_mz : tl (Str.ofString "-0") = [45, 48] := by decide +kernel
theorem tl_dot : tl (Str.ofString ".") = [46] := by decide +kernel
theorem tl_blank : tl (Str.ofString " ") = [32] := by decide +kernel
theorem split_tl (x : Str) : (Txt.split x (Str.ofString " ")).map tl = spl [32] 0 [] (tl x) := by
  have := split_spl x (Str.ofString " ") (by rw [tl_blank]; simp) (kind_ok (by decide +kernel))
  rw [tl_blank] at this
  exact this
/-- all signs are signs -/
def okS (x : Str) : Prop := ∀ c ∈ tl x, c < 1114112
theorem okS.ok {x : Str} (h : okS x) : PyData.strOk x = true := by
  unfold PyData.strOk
  rw [Array.all_eq_true]
  intro i hi
  have := h x.cps[i] (by simp [tl])
  simpa using this
theorem okS.app {x y : Str} (h : okS x) (k : okS y) : okS (x ++ y) := fun c hc => by
  rw [tl_append] at hc
  exact (List.mem_append.mp hc).elim (h c) (k c)
theorem okS.cut {x : Str} (h : okS x) (lo hi : Option Int) : okS (cutS x lo hi) := fun c hc => by
  unfold cutS at hc
  rw [tl_mk] at hc
  exact h c (List.mem_of_mem_drop (List.mem_of_mem_take hc))
theorem spl_mem {S : List Nat} : ∀ {l acc : List Nat} {k : Nat} {p : List Nat} {c : Nat}, p ∈ spl S k acc l → c ∈ p → c ∈ acc ∨ c ∈ l
  | [], acc, k, p, c, h, hc => by
    rw [spl_nil] at h
    simp at h
    rw [h] at hc; exact .inl hc
  | a :: r, acc, 0, p, c, h, hc => by
    unfold spl at h
    split at h
    · rcases List.mem_cons.mp h with e | e
      · rw [e] at hc; exact .inl hc
      · rcases spl_mem e hc with z | z
        · cases z
        · exact .inr (List.mem_cons_of_mem _ z)
    · rcases spl_mem h hc with z | z
      · rcases List.mem_append.mp z with w | w
        · exact .inl w
        · exact .inr (by simp at w; simp [w])
      · exact .inr (List.mem_cons_of_mem _ z)
  | a :: r, acc, k + 1, p, c, h, hc => by
    unfold spl at h
    rcases spl_mem h hc with z | z
    · exact .inl z
    · exact .inr (List.mem_cons_of_mem _ z)
theorem okS.split {x w : Str} (h : okS x) (hw : w ∈ Txt.split x (Str.ofString " ")) : okS w := fun c hc => by
  have : tl w ∈ spl [32] 0 [] (tl x) := by rw [← split_tl]; exact List.mem_map_of_mem hw
  rcases spl_mem this hc with z | z
  · cases z
  · exact h c z
theorem joinL_mem {S : List Nat} : ∀ {ps : List (List Nat)} {c : Nat}, c ∈ joinL S ps → c ∈ S ∨ ∃ p ∈ ps, c ∈ p
  | [], c, h => by simp [joinL] at h
  | [p], c, h => .inr ⟨p, by simp, by simpa [joinL] using h⟩
  | p :: q :: r, c, h => by
    have h' : c ∈ p ++ S ++ joinL S (q :: r) := by simpa only [joinL, List.append_assoc] using h
    rcases List.mem_append.mp h' with z | z
    · rcases List.mem_append.mp z with z | z
      · exact .inr ⟨p, by simp, z⟩
      · exact .inl z
    · rcases joinL_mem z with z | ⟨p', h1, h2⟩
      · exact .inl z
      · exact .inr ⟨p', List.mem_cons_of_mem _ h1, h2⟩
theorem okS.join {ys : List Str} (h : ∀ y ∈ ys, okS y) : okS (Txt.join (Str.ofString " ") ys) := fun c hc => by
  rw [join_eq, tl_join, tl_blank] at hc
  rcases joinL_mem hc with z | ⟨p, h1, h2⟩
  · simp at z; omega
  · obtain ⟨y, hy, rfl⟩ := List.mem_map.mp h1
    exact h y hy c h2
theorem sIx_nat (n d k : Nat) : HT.sIx n d (some (k : Int)) = min k n := by
  unfold HT.sIx
  simp
  omega
theorem cut_take (w : Str) (k : Nat) : tl (cutS w none (some (k : Int))) = (tl w).take k := by
  unfold cutS
  rw [tl_mk, sIx_nat, len_tl]
  show List.take (min k (tl w).length - 0) (List.drop 0 (tl w)) = _
  rw [Nat.sub_zero, List.drop_zero, List.take_eq_take_iff]
  omega
theorem cut_drop (w : Str) (k : Nat) : tl (cutS w (some (k : Int)) none) = (tl w).drop k := by
  unfold cutS
  rw [tl_mk, sIx_nat, len_tl]
  show List.take ((tl w).length - min k (tl w).length) (List.drop (min k (tl w).length) (tl w)) = _
  rw [List.take_of_length_le (by rw [List.length_drop]; exact Nat.le_refl _)]
  by_cases h : k ≤ (tl w).length
  · rw [Nat.min_eq_left h]
  · rw [List.drop_eq_nil_of_le (by omega), List.drop_eq_nil_of_le (by omega)]
theorem cut_none (w : Str) : cutS w (some 0) none = w := by
  have := cut_drop w 0
  exact ext_tl (by simpa using this)
/-- xs[:k], xs[k:] of lists -/
theorem cutL_take {α : Type} (l : List α) (k : Nat) : cutL l none (some (k : Int)) = l.take k := by
  unfold cutL
  rw [sIx_nat]
  show List.take (min k l.length - 0) (List.drop 0 l) = _
  rw [Nat.sub_zero, List.drop_zero, List.take_eq_take_iff]
  omega
theorem cutL_drop {α : Type} (l : List α) (k : Nat) : cutL l (some (k : Int)) none = l.drop k := by
  unfold cutL
  rw [sIx_nat]
  show List.take (l.length - min k l.length) (List.drop (min k l.length) l) = _
  rw [List.take_of_length_le (by rw [List.length_drop]; exact Nat.le_refl _)]
  by_cases h : k ≤ l.length
  · rw [Nat.min_eq_left h]
  · rw [List.drop_eq_nil_of_le (by omega), List.drop_eq_nil_of_le (by omega)]
theorem find_ten {x : Str} {c : Nat} (h : tl x = [c]) (h1 : 48 ≤ c) (h2 : c ≤ 57) : Txt.find (Str.ofString "0123456789") x = (c : Int) - 48 := by
  rw [one_of h]
  have : c = 48 ∨ c = 49 ∨ c = 50 ∨ c = 51 ∨ c = 52 ∨ c = 53 ∨ c = 54 ∨ c = 55 ∨ c = 56 ∨ c = 57 := by omega
  rcases this with rfl | rfl | rfl | rfl | rfl | rfl | rfl | rfl | rfl | rfl <;> decide +kernel
theorem okS.of {x : Str} (h : (tl x).all (· < 1114112) = true) : okS x := fun c hc => by simpa using List.all_eq_true.mp h c hc
theorem strsD_app {xs : List Str} {ds : List D} : strsD (xs.map D.str ++ ds) = (strsD ds).map (xs ++ ·) := by
  induction xs with
  | nil => simp
  | cons x xs ih =>
    simp only [List.map_cons, List.cons_append, strsD_cons, ih, Option.map_map]
    rfl
theorem sum_le {B : Nat} : ∀ {ys : List Str}, (∀ y ∈ ys, y.length ≤ B) → (ys.map (·.length)).sum ≤ B * ys.length
  | [], _ => by simp
  | y :: ys, h => by
    have h1 := h y (by simp)
    have h2 := sum_le (ys := ys) fun z hz => h z (by simp [hz])
    simp only [List.map_cons, List.sum_cons, List.length_cons, Nat.mul_succ]
    omega
theorem join_len {ys : List Str} : (Txt.join (Str.ofString " ") ys).length ≤ (ys.map (·.length)).sum + ys.length := by
  have := PySem.StrLaws.join_length_le (Str.ofString " ") ys
  rw [show (Str.ofString " ").length = 1 by decide +kernel, Nat.mul_one] at this
  rw [join_eq]
  exact this
theorem cutS_len (w : Str) (lo hi : Option Int) : (cutS w lo hi).length ≤ w.length := cutS_length w lo hi
theorem len_app (x y : Str) : (x ++ y).length = x.length + y.length := Str.length_append x y
end Mp
/-! the package's functions of digits and rows -/
namespace Mp
open PySem PySem.Spec L2 TL
def isInD : D → Int → Int → Bool
  | .int i, lo, hi => decide (lo ≤ i) && decide (i ≤ hi)
  | _, _, _ => false
def isBase : D → Bool
  | .int i => decide (-6 ≤ i) && decide (i ≤ 6) && (decide (1 < i) || decide (i < -1))
  | _ => false
abbrev isDig (d : D) : Bool := isInD d (-9) 9
def areDig : D → Bool
  | .tup ds => ds.all isDig
  | _ => false
theorem optD_ok (o : Option Int) : ∃ k, truD (optD o) = some k := by cases o <;> exact ⟨_, rfl⟩
theorem blsD_mapF {α : Type} {f : α → Bool} {l : List α} : blsD (l.map fun x => D.bl (f x)) = some (l.map f) := by
  induction l with
  | nil => rfl
  | cons x l ih => simp [ih]
theorem strsD_mapF {α : Type} {f : α → Str} {l : List α} : strsD (l.map fun x => D.str (f x)) = some (l.map f) := by
  induction l with
  | nil => rfl
  | cons x l ih => simp [ih]
theorem intsD_mapF {α : Type} {f : α → Int} {l : List α} : intsD (l.map fun x => D.int (f x)) = some (l.map f) := by
  induction l with
  | nil => rfl
  | cons x l ih => simp [ih]
theorem Q_iff {h : List CO} {Q : D → List CO → Prop} {a b : D} (e : a = b) : Q a h ↔ Q b h := by rw [e]
/-- the functions of the package are where they are -/
structure HL (P : Nat → Option Fn) : Prop where
  l : ∀ f, f < 1000 → P f = Lib f
section
variable {P : Nat → Option Fn} (hP : HL P) {n : Nat} {h : List CO} {Q : D → List CO → Prop} {X : Nat → List D → List CO → Prop} {u : Hd (CC P n)} {v : Hd Q} {w : Hd X}
include hP
theorem is_integer_eq {d : D} {lo hi : Int} (hn : 1 ≤ n) (hv : tyOk d = true) : CC P n 0 [d, .int lo, .int hi] h Q X = Q (.bl (isInD d lo hi)) h := by
  rw [CC_eq (fn := fn_is_integer) (hP.l 0 (by decide)) hn rfl]
  simp [fn_is_integer, startE, view_ok hv, hv]
  cases d with
  | int i =>
    simp [tyD, isInD]
    by_cases h1 : lo ≤ i <;> simp [h1]
  | cell l => cases hv
  | exc c d => cases hv
  | scr d => cases hv
  | _ => simp [tyD, isInD]
theorem is_base_eq {d : D} (hn : 2 ≤ n) (hv : tyOk d = true) : CC P n 1 [d] h Q X = Q (.bl (isBase d)) h := by
  rw [CC_eq (fn := fn_is_base) (hP.l 1 (by decide)) (by omega) rfl]
  simp [fn_is_base, startE, callB]
  rw [is_integer_eq hP (by omega) hv]
  cases d with
  | int i =>
    simp [isInD, isBase]
    split
    · rename_i h1
      refine Q_iff (congrArg D.bl (Bool.eq_iff_iff.mpr ?_))
      simp
      split <;> omega
    · rename_i h1
      refine Q_iff (congrArg D.bl (Bool.eq_iff_iff.mpr ?_))
      simp
      omega
  | cell l => cases hv
  | exc c d => cases hv
  | scr d => cases hv
  | _ => simp [isInD, isBase]
theorem is_digit_eq {d : D} (hn : 2 ≤ n) (hv : tyOk d = true) : CC P n 2 [d] h Q X = Q (.bl (isDig d)) h := by
  rw [CC_eq (fn := fn_is_digit) (hP.l 2 (by decide)) (by omega) rfl]
  simp [fn_is_digit, startE, callB]
  rw [is_integer_eq hP (by omega) hv]
theorem are_digits_eq {d : D} (hn : 3 ≤ n) (hv : tyOk d = true) (hs : ∀ ds, d = .tup ds → (∀ x ∈ ds, tyOk x = true) ∧ ds.length ≤ sizeLine) : CC P n 3 [d] h Q X = Q (.bl (areDig d)) h := by
  rw [CC_eq (fn := fn_are_digits) (hP.l 3 (by decide)) (by omega) rfl]
  simp [fn_are_digits, startE, view_ok hv, hv]
  cases d with
  | tup ds =>
    obtain ⟨h1, h2⟩ := hs ds rfl
    simp [tyD, itD, h2]
    rw [lcB_map (fun x => .bl (isDig x)) (fun x hx R => ?_)]
    · simp [blsD_mapF, areDig]
    · simp [callB]
      rw [is_digit_eq hP (by omega) (h1 x hx)]
  | cell l => cases hv
  | exc c d => cases hv
  | scr d => cases hv
  | _ => simp [tyD, areDig]
theorem digit_of_eq {x : Str} (hn : 1 ≤ n) (hl : x.length ≤ sizeLine) : CC P n 5 [.str x] h Q X = Q (optD (digL (tl x))) h := by
  rw [CC_eq (fn := fn_digit_of) (hP.l 5 (by decide)) (by omega) rfl]
  simp [fn_digit_of, startE, hl]
  have hr := rmpre_tl x
  have hl2 : (Txt.removeprefix x (Str.ofString "-")).length = (unm (tl x)).length := by rw [len_tl, hr]
  generalize Txt.removeprefix x (Str.ofString "-") = f at *
  have hle : f.length ≤ sizeLine := by
    refine Nat.le_trans ?_ hl
    rw [hl2, len_tl]
    cases tl x with
    | nil => simp [unm]
    | cons c r => by_cases hc : c = 45
                  · subst hc; simp [unm]
                  · rw [unm_ne hc]; exact Nat.le_refl _
  simp [hle]
  have occ : ∀ {c : Nat}, tl f = [c] → (Builtin.Str.occurrences (Str.ofString "0123456789") f 0 (Str.ofString "0123456789").length 1 = [] ↔ ¬ (48 ≤ c ∧ c ≤ 57)) := fun {c} hc => by
    rw [← List.isEmpty_iff, found_ten hc]
    simp
    omega
  cases hx : tl x with
  | nil =>
    rw [hx] at hl2
    simp [hl2, unm, digL, optD]
  | cons a r =>
    rw [hx] at hr hl2
    by_cases ha : a = 45
    · subst ha
      rw [unm_cons] at hr hl2
      cases r with
      | nil => simp [hl2, digL, optD]
      | cons c r =>
        cases r with
        | cons d r => simp [hl2, digL, optD]; omega
        | nil =>
          have e1 : ¬ f = x := fun z => by rw [z, hx] at hr; simp at hr
          have e2 : (x = Str.ofString "-0") ↔ c = 48 := by rw [eq_str, hx, tl_mz]; simp
          simp [hl2, occ hr, e1, e2]
          by_cases h1 : 48 ≤ c ∧ c ≤ 57
          · simp [h1, index_ten hr h1.1 h1.2]
            by_cases h2 : c = 48
            · subst h2; simp [digL, optD]
            · have h3 : 49 ≤ c := by omega
              have h5 : ¬ 57 < c := by omega
              simp [h2, digL, h3, h1.2, optD, h5]
              refine Q_iff (congrArg D.int ?_)
              omega
          · have h3 : ¬ (49 ≤ c ∧ c ≤ 57) := by omega
            have h4 : ¬ (48 ≤ c) ∨ ¬ c ≤ 57 := by omega
            have : 48 ≤ c → 57 < c := by omega
            simp [digL, optD, h3]
            intro z1 z2; omega
    · rw [unm_ne ha] at hr hl2
      cases r with
      | nil =>
        have e1 : f = x := by rw [eq_str, hr, hx]
        have e2 : ¬ (x = Str.ofString "-0") := by rw [eq_str, hx, tl_mz]; simp
        subst e1
        have oc := occ hr
        have fl : (f.length : Int) = 1 := by rw [hl2]; rfl
        simp only [oc, fl, e2, if_true, if_false]
        by_cases h1 : 48 ≤ a ∧ a ≤ 57
        · simp [h1, index_ten hr h1.1 h1.2, digL, optD]
          refine Q_iff (congrArg D.int ?_)
          omega
        · rw [if_pos h1]
          simp [digL, optD, h1]
      | cons c r =>
        cases r with
        | nil => simp [hl2, digL, optD, ha]
        | cons d r => simp [hl2, digL, optD]; omega
end
/-- all are there -/
def allO : List (Option Int) → Option (List Int)
  | [] => some []
  | none :: _ => none
  | some i :: l => (allO l).map (i :: ·)
/-- the row that a text writes -/
def rowL (t : Str) : Option (List Int) := if t = Str.ofString "." then some [] else allO ((spl [32] 0 [] (tl t)).map digL)
def rowD : Option (List Int) → D
  | none => .non
  | some l => .tup (l.map D.int)
theorem spl_len {S : List Nat} : ∀ {l acc : List Nat} {k : Nat} {p : List Nat}, p ∈ spl S k acc l → p.length ≤ acc.length + l.length
  | [], acc, k, p, h => by
    rw [spl_nil] at h
    simp at h
    rw [h]; exact Nat.le_add_right _ _
  | c :: r, acc, 0, p, h => by
    unfold spl at h
    split at h
    · rcases List.mem_cons.mp h with e | e
      · rw [e]; exact Nat.le_add_right _ _
      · have := spl_len e
        simp at this ⊢
        omega
    · have := spl_len h
      simp at this ⊢
      omega
  | c :: r, acc, k + 1, p, h => by
    unfold spl at h
    have := spl_len h
    simp at this ⊢
    omega
theorem word_len {t w : Str} (h : w ∈ Txt.split t (Str.ofString " ")) : w.length ≤ t.length := by
  have : tl w ∈ spl [32] 0 [] (tl t) := by rw [← split_tl]; exact List.mem_map_of_mem h
  have := spl_len this
  rw [len_tl, len_tl]
  simpa using this
theorem allO_none {l : List (Option Int)} : (l.any fun z => eqD (optD z) .non) = (allO l).isNone := by
  induction l with
  | nil => rfl
  | cons a l ih =>
    cases a with
    | none => simp [allO, optD, eqD]
    | some i =>
      simp only [List.any_cons, ih, allO]
      cases allO l <;> simp [optD, eqD]
theorem allO_some : ∀ {l : List (Option Int)} {r : List Int}, allO l = some r → l.map optD = r.map D.int
  | [], r, h => by cases h; rfl
  | none :: l, r, h => by cases h
  | some i :: l, r, h => by
    unfold allO at h
    cases e : allO l with
    | none => rw [e] at h; cases h
    | some q => rw [e] at h; cases h; simp [allO_some e, optD]
theorem flat_optD {l : List (Option Int)} : flatDs 50 (l.map optD) = true := by
  induction l with
  | nil => rfl
  | cons a l ih => cases a <;> simp [flatDs, flatD, optD, ih]
def intD : D → Int
  | .int i => i
  | _ => 0
/-- a digit's text -/
def digT (i : Int) : List Nat := if 0 ≤ i then [48 + i.toNat] else [45, 48 + (-i).toNat]
theorem tl_digT {i : Int} (h1 : -9 ≤ i) (h2 : i ≤ 9) : tl (digS i) = digT i := by
  have key : ∀ k : Fin 19, tl (digS ((k.val : Int) - 9)) = digT ((k.val : Int) - 9) := by decide +kernel
  have e : (((i + 9).toNat : Nat) : Int) - 9 = i := by omega
  have := key ⟨(i + 9).toNat, by omega⟩
  simp only [e] at this
  exact this
theorem digT_len {i : Int} (h1 : -9 ≤ i) (h2 : i ≤ 9) : (digS i).length ≤ 2 := by
  rw [len_tl, tl_digT h1 h2]
  unfold digT
  split <;> simp
theorem digL_digT {i : Int} (h1 : -9 ≤ i) (h2 : i ≤ 9) : digL (digT i) = some i := by
  unfold digT
  split
  · have h3 : 48 + i.toNat ≤ 57 := by omega
    simp [digL, h3]
    omega
  · have h3 : 48 + (-i).toNat ≤ 57 := by omega
    have h4 : 49 ≤ 48 + (-i).toNat := by omega
    simp only [digL, h3, h4, and_self, if_true]
    congr 1
    omega
theorem sum_len {α : Type} {f : α → Str} : ∀ {l : List α}, (∀ i ∈ l, (f i).length ≤ 2) → ((l.map f).map (·.length)).sum ≤ 2 * l.length
  | [], _ => by simp
  | a :: l, h => by
    have h1 := h a (by simp)
    have h2 := sum_len (l := l) fun i hi => h i (by simp [hi])
    simp only [List.map_cons, List.sum_cons, List.length_cons] at h2 ⊢
    omega
def strD : D → Str
  | .str x => x
  | _ => Str.empty
section
variable {P : Nat → Option Fn} (hP : HL P) {n : Nat} {h : List CO} {Q : D → List CO → Prop} {X : Nat → List D → List CO → Prop}
include hP
theorem row_of_eq {t : Str} (hn : 2 ≤ n) (hl : t.length + 2 ≤ sizeLine) : CC P n 6 [.str t] h Q X = Q (rowD (rowL t)) h := by
  rw [CC_eq (fn := fn_row_of) (hP.l 6 (by decide)) (by omega) rfl]
  have b1 : ((Str.ofString " ").length == 0) = false := by decide +kernel
  have b2 : (Txt.split t (Str.ofString " ")).length ≤ sizeLine := Nat.le_trans (PyProof.Rows.fact_split t (Str.ofString " ")).2 hl
  simp [fn_row_of, startE, itD, b1, b2, hl]
  by_cases ht : t = Str.ofString "."
  · simp [ht, rowL, rowD]
  · rw [if_neg ht, lcB_map (fun x => optD (digL (tl (strD x)))) (fun x hx R => ?_)]
    · simp only [List.map_map]
      have e : List.map ((fun x => optD (digL (tl (strD x)))) ∘ D.str) (Txt.split t (Str.ofString " ")) = ((spl [32] 0 [] (tl t)).map digL).map optD := by
        rw [← split_tl]
        simp [strD]
      rw [e]
      have e2 := allO_none (l := (spl [32] 0 [] (tl t)).map digL)
      have e3 := flat_optD (l := (spl [32] 0 [] (tl t)).map digL)
      simp only [rowL, ht, if_false]
      generalize (spl [32] 0 [] (tl t)).map digL = ws at *
      simp [e3, flatD]
      cases ea : allO ws with
      | none =>
        rw [ea] at e2
        simp only [Option.isNone_none, List.any_eq_true] at e2
        obtain ⟨x, hx, hz⟩ := e2
        simp [rowD]
        intro z
        rw [z x hx] at hz
        cases hz
      | some r =>
        rw [ea] at e2
        simp only [Option.isNone_some, List.any_eq_false] at e2
        simp [rowD, allO_some ea]
        intro x hx hz
        exact absurd hz (e2 x hx)
    · obtain ⟨w, hw, rfl⟩ := List.mem_map.mp hx
      have := word_len hw
      simp [callB]
      rw [digit_of_eq hP (by omega) (by omega)]
      rfl
theorem read_row_str {t : Str} (hn : 3 ≤ n) (hl : t.length + 2 ≤ sizeLine) : CC P n 7 [.str t] h Q X = (match rowL t with
    | some l => Q (.tup (l.map D.int)) h
    | none => X 105 [.str t] h) := by
  rw [CC_eq (fn := fn_read_row) (hP.l 7 (by decide)) (by omega) rfl]
  simp [fn_read_row, startE, tyOk, tyD, callB]
  rw [row_of_eq hP (by omega) hl]
  cases rowL t with
  | none => simp [rowD, isNonD]
  | some l => simp [rowD, isNonD]
theorem read_row_oth {d : D} (hn : 3 ≤ n) (hv : tyOk d = true) (hd : tyD d .str = false) : CC P n 7 [d] h Q X = X 105 [d] h := by
  rw [CC_eq (fn := fn_read_row) (hP.l 7 (by decide)) (by omega) rfl]
  simp [fn_read_row, startE, view_ok hv, hv, hd, isNonD]
/-- the text of a row -/
def rowT (l : List Int) : Str := if l = [] then Str.ofString "." else Txt.join (Str.ofString " ") (l.map digS)
theorem row_text_bad {d : D} (hn : 4 ≤ n) (hv : tyOk d = true) (hs : ∀ ds, d = .tup ds → (∀ x ∈ ds, tyOk x = true) ∧ ds.length ≤ sizeLine) (hd : areDig d = false) : CC P n 4 [d] h Q X = X 104 [d] h := by
  rw [CC_eq (fn := fn_row_text) (hP.l 4 (by decide)) (by omega) rfl]
  simp [fn_row_text, startE, callB]
  rw [are_digits_eq hP (by omega) hv hs]
  simp [hd]
theorem are_digits_oth {d : D} (hn : 1 ≤ n) (hv : tyOk (view h d) = true) (hd : tyD (view h d) .tuple = false) : CC P n 3 [d] h Q X = Q (.bl false) h := by
  rw [CC_eq (fn := fn_are_digits) (hP.l 3 (by decide)) (by omega) rfl]
  simp [fn_are_digits, startE, hv, hd]
theorem row_text_oth {d : D} (hn : 2 ≤ n) (hv : tyOk (view h d) = true) (hd : tyD (view h d) .tuple = false) : CC P n 4 [d] h Q X = X 104 [d] h := by
  rw [CC_eq (fn := fn_row_text) (hP.l 4 (by decide)) (by omega) rfl]
  simp [fn_row_text, startE, callB]
  rw [are_digits_oth hP (by omega) hv hd]
  simp
theorem row_text_eq {l : List Int} (hn : 4 ≤ n) (hl : ∀ i ∈ l, -9 ≤ i ∧ i ≤ 9) (hs : l.length ≤ 1000) : CC P n 4 [.tup (l.map D.int)] h Q X = Q (.str (rowT l)) h := by
  rw [CC_eq (fn := fn_row_text) (hP.l 4 (by decide)) (by omega) rfl]
  simp [fn_row_text, startE, callB]
  rw [are_digits_eq hP (by omega) rfl (fun ds e => by
    cases e
    refine ⟨fun x hx => ?_, by rw [List.length_map, sizeLine_eq]; omega⟩
    obtain ⟨i, _, rfl⟩ := List.mem_map.mp hx
    rfl)]
  have hd : areDig (.tup (l.map D.int)) = true := by
    simp only [areDig, List.all_eq_true]
    intro x hx
    obtain ⟨i, hi, rfl⟩ := List.mem_map.mp hx
    simp [isInD, hl i hi]
  simp [hd, itD]
  by_cases h0 : l = []
  · simp [h0, rowT]
  have h1 : l.length ≠ 0 := fun z => h0 (List.length_eq_zero_iff.mp z)
  have h2 : 0 < l.length := by omega
  have h3 : l.length ≤ sizeLine := by rw [sizeLine_eq]; omega
  simp [h2, h3]
  rw [lcB_map (fun x => .str (digS (intD x))) (fun x hx R => ?_)]
  · simp only [List.map_map]
    have e : List.map ((fun x => D.str (digS (intD x))) ∘ D.int) l = (l.map digS).map D.str := by simp [intD]
    rw [e]
    have e2 := strsD_map (l.map digS)
    have e3 : ((l.map digS).map (·.length)).sum ≤ 2 * l.length := sum_len fun i hi => (digT_len (hl i hi).1 (hl i hi).2)
    have e4 : (Str.ofString " ").length = 1 := by decide +kernel
    have e5 : (l.map digS).length = l.length := by simp
    unfold rowT
    rw [if_neg h0]
    generalize (l.map digS) = ys at *
    simp [e2, e4, e5]
    intro _
    omega
  · obtain ⟨i, hi, rfl⟩ := List.mem_map.mp hx
    have := hl i hi
    have lg : i.natAbs.log2 < 1920 := by
      have := log2_lt' (n := i) (k := 4) (by omega)
      omega
    simp [intD, lg]
end
theorem digT_free {i : Int} (h1 : -9 ≤ i) (h2 : i ≤ 9) : 32 ∉ digT i := by
  unfold digT
  split <;> simp <;> omega
theorem tl_rowT {l : List Int} (hl : ∀ i ∈ l, -9 ≤ i ∧ i ≤ 9) (h0 : l ≠ []) : tl (rowT l) = joinL [32] (l.map digT) := by
  unfold rowT
  rw [if_neg h0, join_eq, tl_join, tl_blank]
  congr 1
  rw [List.map_map]
  exact List.map_congr_left fun i hi => tl_digT (hl i hi).1 (hl i hi).2
theorem allO_map {l : List Int} : allO (l.map some) = some l := by
  induction l with
  | nil => rfl
  | cons a l ih => simp [allO, ih]
theorem rowL_rowT {l : List Int} (hl : ∀ i ∈ l, -9 ≤ i ∧ i ≤ 9) : rowL (rowT l) = some l := by
  by_cases h0 : l = []
  · subst h0; simp [rowT, rowL]
  · have ht := tl_rowT hl h0
    have hd : ¬ rowT l = Str.ofString "." := by
      rw [eq_str, ht, tl_dot]
      cases l with
      | nil => exact absurd rfl h0
      | cons a l =>
        have := hl a (by simp)
        cases l with
        | nil => simp [joinL, digT]; split <;> simp; omega
        | cons b l => simp [joinL, digT]; split <;> simp
    unfold rowL
    rw [if_neg hd, ht, spl_join (by simpa using h0) (by
      intro p hp
      obtain ⟨i, hi, rfl⟩ := List.mem_map.mp hp
      exact digT_free (hl i hi).1 (hl i hi).2)]
    rw [List.map_map]
    have : List.map (digL ∘ digT) l = l.map some := List.map_congr_left fun i hi => digL_digT (hl i hi).1 (hl i hi).2
    rw [this, allO_map]
theorem flat_ints (k : Nat) (l : List Int) : flatDs k (l.map D.int) = true := by
  induction l with
  | nil => cases k <;> rfl
  | cons a l ih => simp [flatDs, flatD, ih]
theorem eqDs_ints (l : List Int) : eqDs (l.map D.int) (l.map D.int) = true := by
  induction l with
  | nil => simp
  | cons a l ih => simp [ih]
theorem rowT_ok {l : List Int} (hl : ∀ i ∈ l, -9 ≤ i ∧ i ≤ 9) : okS (rowT l) ∧ (rowT l).length ≤ 3 * l.length + 1 := by
  unfold rowT
  split
  · rename_i h; subst h; exact ⟨.of (by decide +kernel), by decide +kernel⟩
  · refine ⟨.join fun y hy => ?_, ?_⟩
    · obtain ⟨i, hi, rfl⟩ := List.mem_map.mp hy
      intro c hc
      rw [tl_digT (hl i hi).1 (hl i hi).2] at hc
      have := hl i hi
      unfold digT at hc
      split at hc <;> simp at hc <;> omega
    · have e3 : ((l.map digS).map (·.length)).sum ≤ 2 * l.length := sum_len fun i hi => (digT_len (hl i hi).1 (hl i hi).2)
      have := join_len (ys := l.map digS)
      have e5 : (l.map digS).length = l.length := by simp
      omega
theorem flatDs_app {k : Nat} {a b : List D} : flatDs k (a ++ b) = (flatDs k a && flatDs k b) := by
  induction a with
  | nil => cases k <;> simp [flatDs]
  | cons x a ih => simp [flatDs, ih, Bool.and_assoc]
theorem eqDs_app : ∀ {a b c : List D}, eqDs (a ++ b) (a ++ c) = (eqDs a a && eqDs b c)
  | [], b, c => by simp
  | x :: a, b, c => by simp [eqDs_app (a := a), Bool.and_assoc]
mutual
theorem flatD_up : ∀ {d : D} {k : Nat}, flatD k d = true → flatD (k + 1) d = true
  | .non, _, _ => by simp [flatD]
  | .bl _, _, _ => by simp [flatD]
  | .int _, _, _ => by simp [flatD]
  | .str _, _, h => by simpa [flatD] using h
  | .tup ds, 0, h => by simp [flatD] at h
  | .tup ds, k + 1, h => by
    simp only [flatD] at h ⊢
    exact flatDs_up h
  | .lst ds, 0, h => by simp [flatD] at h
  | .lst ds, k + 1, h => by
    simp only [flatD] at h ⊢
    exact flatDs_up h
  | .dic _ _, _, h => by simp [flatD] at h
  | .obj _ _, _, h => by simp [flatD] at h
  | .exc _ _, _, h => by simp [flatD] at h
  | .cell _, _, h => by simp [flatD] at h
  | .scr _, _, h => by simp [flatD] at h
theorem flatDs_up : ∀ {ds : List D} {k : Nat}, flatDs k ds = true → flatDs (k + 1) ds = true
  | [], _, _ => by simp [flatDs]
  | d :: ds, k, h => by
    simp only [flatDs, Bool.and_eq_true] at h ⊢
    exact ⟨flatD_up h.1, flatDs_up h.2⟩
end
end Mp
namespace Mp.K02
open PySem PySem.Spec PyProof.Rows L2
def top (i : Nat) : Stmt := PySem.Challenge.pw_oddfigures_k02_rows_as_text.main.body.getD i (.Pass ⟨0, 0, 0, 0⟩)
def fn_law_cell : Fn := ⟨2, 2, [.ite (.tb (.op .lt [.brw 1, .op .len [.brw 0]])) [.ret (.op .item [.brw 0, .brw 1])] [],
    .ret (.op .add [.op .mul [.con (.int 152031077), .brw 1], .con (.int 5279)])], false⟩
def fn_law_box : Fn := ⟨1, 1, [.ret (.cel (.lst [.op .max2 [.con (.int 0), .op .sub [.brw 0, .op .pow [.con (.int 10), .con (.int 18)]]], .op .mod [.op .toInt [.brw 0], .con (.int 2147483629)], .con (.int 0)]))], false⟩
def fn_law_take : Fn := ⟨2, 4, [.ite (.tb (.op .gt [.op .item [.brw 0, .con (.int 0)], .con (.int 0)])) [.asg (.nm 2) (.op .mod [.op .toInt [.op .item [.brw 0, .con (.int 0)]], .brw 1]),
    .setI 0 (.con (.int 0)) (.op .fdiv [.op .item [.brw 0, .con (.int 0)], .brw 1]),
    .ret (.var 2)] [],
    .setI 0 (.con (.int 2)) (.op .add [.op .item [.brw 0, .con (.int 2)], .con (.int 1)]),
    .asg (.nm 3) (.op .mod [.op .pow [.op .toInt [.op .add [.op .add [.op .item [.brw 0, .con (.int 1)], .op .mul [.con (.int 7213), .op .item [.brw 0, .con (.int 2)]]], .con (.int 292)]], .con (.int 5)], .con (.int 2147483647)]),
    .asg (.nm 3) (.op .mod [.op .pow [.op .toInt [.op .add [.brw 3, .op .mul [.con (.int 81239), .op .item [.brw 0, .con (.int 2)]]]], .con (.int 3)], .con (.int 2147483587)]),
    .ret (.op .mod [.op .toInt [.op .fdiv [.brw 3, .con (.int 16)]], .brw 1])], false⟩
def fn_law_text : Fn := ⟨1, 3, [.asgO 1 (.lst []),
    .for_ .seq [.var 0] (.nm 2) [.app 1 (.op .add [.op .mul [.con (.str "-"), .op .toInt [.op .lt [.brw 2, .con (.int 0)]]], .op .item [.con (.str "0123456789"), .op .abs [.brw 2]]])],
    .ret (.ite (.tb (.op .eq [.brw 1, .lst []])) (.con (.str ".")) (.op .join [.con (.str " "), .brw 1]))], false⟩
def fn_law_refused : Fn := ⟨1, 3, [.tryA [.asg (.nm 1) (.call 4 [.var 0] [.inl 0])] [(104, 2)] [[.ret (.lst [.con (.str "row"), .xfl 2 "row", .xis 2 100])]],
    .ret (.lst [.con (.str "text"), .var 1])], false⟩
def fn_law_right : Fn := ⟨1, 11, [.asg (.nm 3) (.op .item [.lst [.call 1002 [.var 0, .con (.int 13)] [.inl 0, .inl 1], .call 1002 [.var 0, .con (.int 13)] [.inl 0, .inl 1], .con (.int 100)], .call 1002 [.var 0, .con (.int 3)] [.inl 0, .inl 1]]),
    .asg (.nm 4) (.op .toTuple [.lc .range1 [.var 3] (.nm 1) [] (.op .sub [.call 1002 [.var 0, .con (.int 19)] [.inl 0, .inl 1], .con (.int 9)]) [1]]),
    .asg (.nm 5) (.call 1003 [.var 4] [.inl 0]),
    .ite (.tOr (.tb (.op .ne [.call 4 [.var 4] [.inl 0], .brw 5])) (.tOr (.tb (.op .ne [.call 7 [.var 5] [.inl 0], .brw 4])) (.tNot (.tru (.op (.isi [.tuple] false) [.call 7 [.var 5] [.inl 0]]))))) [.ret (.con (.bl false))] [],
    .ite (.tb (.op .ne [.lc .seq [.call 7 [.var 5] [.inl 0]] (.nm 2) [.tru (.op (.isi [.bool] false) [.brw 2])] (.var 2) [2], .lst []])) [.ret (.con (.bl false))] [],
    .ite (.tb (.op .ne [.call 4 [.call 7 [.var 5] [.inl 0]] [.inl 0], .brw 5])) [.ret (.con (.bl false))] [],
    .par [6, 7] [.call 1002 [.var 0, .op .add [.brw 3, .con (.int 1)]] [.inl 0, .inl 1], .op .item [.lst [.con (.int 10), .op .neg [.con (.int 10)], .con (.bl true), .con .non, .con (.str "1"), .tup [.con (.int 1)], .op .pow [.con (.int 10), .con (.int 30)]], .call 1002 [.var 0, .con (.int 7)] [.inl 0, .inl 1]]],
    .for_ .seq [.lst [.op .add [.op .add [.op (.sl false true) [.brw 4, .brw 6], .tup [.var 7]], .op (.sl true false) [.brw 4, .brw 6]], .op .toList [.brw 4], .var 5, .con .non, .con (.int 3), .cel (.dct [.con (.int 1)] [.con (.int 2)])]] (.nm 8) [.ite (.tb (.op .neL [.call 1004 [.var 8] [.inl 0], .lst [.con (.str "row"), .var 8, .con (.bl true)]])) [.ret (.con (.bl false))] []],
    .asg (.nm 9) (.cel (.op .toList [.brw 4])),
    .asg (.nm 10) (.call 1004 [.var 9] [.inl 0]),
    .app 9 (.con (.int 1)),
    .ret (.andV (.op .eq [.op .item [.brw 10, .con (.int 1)], .brw 9]) (.op .eq [.call 4 [.var 4] [.inl 0], .brw 5]))], false⟩
def fn_law : Fn := ⟨1, 2, [.for_ .range1 [.op .max2 [.con (.int 2), .op .min2 [.con (.int 10), .op .len [.brw 0]]]] (.nm 1) [.ite (.tNot (.tru (.call 1005 [.call 1001 [.call 1000 [.var 0, .var 1] [.inl 0, .inl 1]] [.inl 0]] [.inl 0]))) [.ret (.con (.bl false))] []],
    .ret (.con (.bl true))], false⟩
def t0 : FT := ⟨"is_integer", "is_integer", defArgs (top 6), defBody (top 6), defScope (top 6), ["value", "low", "high"], ["value", "low", "high"], fn_is_integer⟩
def t2 : FT := ⟨"is_digit", "is_digit", defArgs (top 7), defBody (top 7), defScope (top 7), ["value"], ["value"], fn_is_digit⟩
def t3 : FT := ⟨"are_digits", "are_digits", defArgs (top 8), defBody (top 8), defScope (top 8), ["value", "item"], ["value"], fn_are_digits⟩
def t4 : FT := ⟨"row_text", "row_text", defArgs (top 9), defBody (top 9), defScope (top 9), ["row", "digit"], ["row"], fn_row_text⟩
def t5 : FT := ⟨"digit_of", "digit_of", defArgs (top 10), defBody (top 10), defScope (top 10), ["word", "figure"], ["word"], fn_digit_of⟩
def t6 : FT := ⟨"row_of", "row_of", defArgs (top 11), defBody (top 11), defScope (top 11), ["text", "word", "digits"], ["text"], fn_row_of⟩
def t7 : FT := ⟨"read_row", "read_row", defArgs (top 12), defBody (top 12), defScope (top 12), ["text", "row"], ["text"], fn_read_row⟩
def t1000 : FT := ⟨"_law_cell", "_law_cell", defArgs (top 14), defBody (top 14), defScope (top 14), ["_law_script", "_law_k"], ["_law_script", "_law_k"], fn_law_cell⟩
def t1001 : FT := ⟨"_law_box", "_law_box", defArgs (top 15), defBody (top 15), defScope (top 15), ["_law_cell_here"], ["_law_cell_here"], fn_law_box⟩
def t1002 : FT := ⟨"_law_take", "_law_take", defArgs (top 16), defBody (top 16), defScope (top 16), ["_law_box_here", "_law_many", "_law_digit", "_law_number"], ["_law_box_here", "_law_many"], fn_law_take⟩
def t1003 : FT := ⟨"_law_text", "_law_text", defArgs (top 17), defBody (top 17), defScope (top 17), ["_law_line", "_law_words", "_law_digit"], ["_law_line"], fn_law_text⟩
def t1004 : FT := ⟨"_law_refused", "_law_refused", defArgs (top 18), defBody (top 18), defScope (top 18), ["_law_value", "_law_told", "e"], ["_law_value"], fn_law_refused⟩
def t1005 : FT := ⟨"_law_right", "_law_right", defArgs (top 19), defBody (top 19), defScope (top 19), ["_law_box_here", "_law_k", "_law_digit", "_law_many", "_law_line", "_law_wording", "_law_spot", "_law_odd", "_law_wrong", "_law_late", "_law_told"], ["_law_box_here"], fn_law_right⟩
def t1006 : FT := ⟨"law", "law", defArgs (top 20), defBody (top 20), defScope (top 20), ["_law_script", "_law_k"], ["_law_script"], fn_law⟩
def T : List (Nat × FT) := [(0, t0), (2, t2), (3, t3), (4, t4), (5, t5), (6, t6), (7, t7), (1000, t1000), (1001, t1001), (1002, t1002), (1003, t1003), (1004, t1004), (1005, t1005), (1006, t1006)]
def glo : List (Str × D) := [("GREATEST_DIGIT", (.int 9))]
def s0 : List ShT := [(3, [], [.inl 0, .inl 1, .inl 2])]
def s2 : List ShT := [(1, [], [.inl 0])]
def s3 : List ShT := [(1, [], [.inl 0])]
def s4 : List ShT := [(0, ["row"], [.inl 0]), (1, [], [.inl 0])]
def s5 : List ShT := [(1, [], [.inl 0])]
def s6 : List ShT := [(1, [], [.inl 0])]
def s7 : List ShT := [(0, ["text"], [.inl 0]), (1, [], [.inl 0])]
def s1000 : List ShT := [(2, [], [.inl 0, .inl 1])]
def s1001 : List ShT := [(1, [], [.inl 0])]
def s1002 : List ShT := [(2, [], [.inl 0, .inl 1])]
def s1003 : List ShT := [(1, [], [.inl 0])]
def s1004 : List ShT := [(1, [], [.inl 0])]
def s1005 : List ShT := [(1, [], [.inl 0])]
def s1006 : List ShT := [(1, [], [.inl 0])]
def fns : List (Str × Nat × Bool × List ShT) := [("is_integer", 0, false, s0), ("is_digit", 2, false, s2), ("are_digits", 3, false, s3), ("row_text", 4, false, s4), ("digit_of", 5, false, s5), ("row_of", 6, false, s6), ("read_row", 7, false, s7), ("_law_cell", 1000, false, s1000), ("_law_box", 1001, false, s1001), ("_law_take", 1002, false, s1002), ("_law_text", 1003, false, s1003), ("_law_refused", 1004, false, s1004), ("_law_right", 1005, false, s1005), ("law", 1006, false, s1006)]
def kn : List Nat := []
def xn : List Nat := [100, 104, 105]
def mdl : Md := ⟨glo, fns, kn, xn⟩
theorem hT : T.all (fun p => p.2.ok 60 mdl) = true := by kernel_rfl
def P (f : Nat) : Option Fn := if f < 1000 then Lib f else match f with
  | 1000 => some fn_law_cell
  | 1001 => some fn_law_box
  | 1002 => some fn_law_take
  | 1003 => some fn_law_text
  | 1004 => some fn_law_refused
  | 1005 => some fn_law_right
  | 1006 => some fn_law
  | _ => none
theorem hP : ∀ p ∈ T, P p.1 = some p.2.fn := by
  intro p hp
  simp only [T, List.mem_cons, List.not_mem_nil, or_false] at hp
  rcases hp with rfl | rfl | rfl | rfl | rfl | rfl | rfl | rfl | rfl | rfl | rfl | rfl | rfl | rfl <;> rfl
def d0 : He.DefD := ⟨("is_integer", none), "is_integer", "is_integer", defArgs (top 6), defBody (top 6), defScope (top 6), [], []⟩
def d2 : He.DefD := ⟨("is_digit", none), "is_digit", "is_digit", defArgs (top 7), defBody (top 7), defScope (top 7), [], []⟩
def d3 : He.DefD := ⟨("are_digits", none), "are_digits", "are_digits", defArgs (top 8), defBody (top 8), defScope (top 8), [], []⟩
def d4 : He.DefD := ⟨("row_text", none), "row_text", "row_text", defArgs (top 9), defBody (top 9), defScope (top 9), [], []⟩
def d5 : He.DefD := ⟨("digit_of", none), "digit_of", "digit_of", defArgs (top 10), defBody (top 10), defScope (top 10), [], []⟩
def d6 : He.DefD := ⟨("row_of", none), "row_of", "row_of", defArgs (top 11), defBody (top 11), defScope (top 11), [], []⟩
def d7 : He.DefD := ⟨("read_row", none), "read_row", "read_row", defArgs (top 12), defBody (top 12), defScope (top 12), [], []⟩
def d1000 : He.DefD := ⟨("_law_cell", none), "_law_cell", "_law_cell", defArgs (top 14), defBody (top 14), defScope (top 14), [], []⟩
def d1001 : He.DefD := ⟨("_law_box", none), "_law_box", "_law_box", defArgs (top 15), defBody (top 15), defScope (top 15), [], []⟩
def d1002 : He.DefD := ⟨("_law_take", none), "_law_take", "_law_take", defArgs (top 16), defBody (top 16), defScope (top 16), [], []⟩
def d1003 : He.DefD := ⟨("_law_text", none), "_law_text", "_law_text", defArgs (top 17), defBody (top 17), defScope (top 17), [], []⟩
def d1004 : He.DefD := ⟨("_law_refused", none), "_law_refused", "_law_refused", defArgs (top 18), defBody (top 18), defScope (top 18), [], []⟩
def d1005 : He.DefD := ⟨("_law_right", none), "_law_right", "_law_right", defArgs (top 19), defBody (top 19), defScope (top 19), [], []⟩
def d1006 : He.DefD := ⟨("law", none), "law", "law", defArgs (top 20), defBody (top 20), defScope (top 20), [], []⟩
def dfs : List He.DefD := [d0, d2, d3, d4, d5, d6, d7, d1000, d1001, d1002, d1003, d1004, d1005, d1006]
def fa : List He.Fa := [.glo "is_integer", .glo "is_digit", .glo "are_digits", .glo "row_text", .glo "digit_of", .glo "row_of", .glo "read_row", .glo "_law_cell", .glo "_law_box", .glo "_law_take", .glo "_law_text", .glo "_law_refused", .glo "_law_right", .glo "law", .free "len", .free "abs", .free "max", .free "min", .free "int", .free "str", .free "repr", .free "list", .free "tuple", .free "isinstance", .free "range", .free "bool", .free "dict", .free "all", .free "any", .free "sum", .free "sorted", .free "set", .int "GREATEST_DIGIT" 9]
abbrev R : PySem.W.OpenRow := PySem.W.OpenLaw.row PySem.Challenge.rw_oddfigures_k02_rows_as_text
def file : Str := PySem.Challenge.pw_oddfigures_k02_rows_as_text.main.file
abbrev hk : PySem.W.Hook := hookM 5 fa dfs (kitM file kn xn)
def ob (s : PySem.W.SharedT) : Bool × He.AlD := obsM 5 fa dfs (kitM file kn xn) (HandSHeadRun.getT s)
theorem ob_eq (s : PySem.W.SharedT) : ob s = hk.obs s.abs := obsM_eq (HandSHeadRun.getT_eq s)
theorem htop : (PySem.Challenge.pw_oddfigures_k02_rows_as_text.main.scope.names.lookup ("super" : Str)).isSome = false := by kernel_rfl
def names0 : List PySem.Str := ["FigureError", "InvalidRow", "InvalidText", "GREATEST_DIGIT", "is_integer", "is_digit", "are_digits", "row_text", "digit_of", "row_of", "read_row", "_law_cell", "_law_box", "_law_take", "_law_text", "_law_refused", "_law_right"]
def loose : List PySem.Str := names0
theorem run (w : World) : HandSHeadRun.RunEq R (PySem.W.view R.prog [20]) hk ob 20000 loose w := by
  intro os
  kernel_rfl
theorem sh0 {K : PySem.W.Frag} {f : Addr} {fd : FuncData} (F : FunD K "is_integer" "is_integer" (defArgs (top 6)) (defBody (top 6)) (defScope (top 6)) [] [] f fd) : ∀ q ∈ s0, Shp K fd t0.ps q.1 q.2.1 q.2.2 ∧ q.2.2.length = t0.ps.length := by
  intro q hq
  simp only [s0, List.mem_cons, List.not_mem_nil, or_false] at hq
  rcases hq with rfl
  · exact ⟨shp_of F 3 [] [0, 1, 2] (by decide) (fun _ _ _ _ _ _ us ws h1 h2 => match us, ws, h1, h2 with | [_, _, _], [], _, _ => rfl), rfl⟩
theorem sh2 {K : PySem.W.Frag} {f : Addr} {fd : FuncData} (F : FunD K "is_digit" "is_digit" (defArgs (top 7)) (defBody (top 7)) (defScope (top 7)) [] [] f fd) : ∀ q ∈ s2, Shp K fd t2.ps q.1 q.2.1 q.2.2 ∧ q.2.2.length = t2.ps.length := by
  intro q hq
  simp only [s2, List.mem_cons, List.not_mem_nil, or_false] at hq
  rcases hq with rfl
  · exact ⟨shp_of F 1 [] [0] (by decide) (fun _ _ _ _ _ _ us ws h1 h2 => match us, ws, h1, h2 with | [_], [], _, _ => rfl), rfl⟩
theorem sh3 {K : PySem.W.Frag} {f : Addr} {fd : FuncData} (F : FunD K "are_digits" "are_digits" (defArgs (top 8)) (defBody (top 8)) (defScope (top 8)) [] [] f fd) : ∀ q ∈ s3, Shp K fd t3.ps q.1 q.2.1 q.2.2 ∧ q.2.2.length = t3.ps.length := by
  intro q hq
  simp only [s3, List.mem_cons, List.not_mem_nil, or_false] at hq
  rcases hq with rfl
  · exact ⟨shp_of F 1 [] [0] (by decide) (fun _ _ _ _ _ _ us ws h1 h2 => match us, ws, h1, h2 with | [_], [], _, _ => rfl), rfl⟩
theorem sh4 {K : PySem.W.Frag} {f : Addr} {fd : FuncData} (F : FunD K "row_text" "row_text" (defArgs (top 9)) (defBody (top 9)) (defScope (top 9)) [] [] f fd) : ∀ q ∈ s4, Shp K fd t4.ps q.1 q.2.1 q.2.2 ∧ q.2.2.length = t4.ps.length := by
  intro q hq
  simp only [s4, List.mem_cons, List.not_mem_nil, or_false] at hq
  rcases hq with rfl | rfl
  · exact ⟨shp_of F 0 ["row"] [0] (by decide) (fun _ _ _ _ _ _ us ws h1 h2 => match us, ws, h1, h2 with | [], [_], _, _ => rfl), rfl⟩
  · exact ⟨shp_of F 1 [] [0] (by decide) (fun _ _ _ _ _ _ us ws h1 h2 => match us, ws, h1, h2 with | [_], [], _, _ => rfl), rfl⟩
theorem sh5 {K : PySem.W.Frag} {f : Addr} {fd : FuncData} (F : FunD K "digit_of" "digit_of" (defArgs (top 10)) (defBody (top 10)) (defScope (top 10)) [] [] f fd) : ∀ q ∈ s5, Shp K fd t5.ps q.1 q.2.1 q.2.2 ∧ q.2.2.length = t5.ps.length := by
  intro q hq
  simp only [s5, List.mem_cons, List.not_mem_nil, or_false] at hq
  rcases hq with rfl
  · exact ⟨shp_of F 1 [] [0] (by decide) (fun _ _ _ _ _ _ us ws h1 h2 => match us, ws, h1, h2 with | [_], [], _, _ => rfl), rfl⟩
theorem sh6 {K : PySem.W.Frag} {f : Addr} {fd : FuncData} (F : FunD K "row_of" "row_of" (defArgs (top 11)) (defBody (top 11)) (defScope (top 11)) [] [] f fd) : ∀ q ∈ s6, Shp K fd t6.ps q.1 q.2.1 q.2.2 ∧ q.2.2.length = t6.ps.length := by
  intro q hq
  simp only [s6, List.mem_cons, List.not_mem_nil, or_false] at hq
  rcases hq with rfl
  · exact ⟨shp_of F 1 [] [0] (by decide) (fun _ _ _ _ _ _ us ws h1 h2 => match us, ws, h1, h2 with | [_], [], _, _ => rfl), rfl⟩
theorem sh7 {K : PySem.W.Frag} {f : Addr} {fd : FuncData} (F : FunD K "read_row" "read_row" (defArgs (top 12)) (defBody (top 12)) (defScope (top 12)) [] [] f fd) : ∀ q ∈ s7, Shp K fd t7.ps q.1 q.2.1 q.2.2 ∧ q.2.2.length = t7.ps.length := by
  intro q hq
  simp only [s7, List.mem_cons, List.not_mem_nil, or_false] at hq
  rcases hq with rfl | rfl
  · exact ⟨shp_of F 0 ["text"] [0] (by decide) (fun _ _ _ _ _ _ us ws h1 h2 => match us, ws, h1, h2 with | [], [_], _, _ => rfl), rfl⟩
  · exact ⟨shp_of F 1 [] [0] (by decide) (fun _ _ _ _ _ _ us ws h1 h2 => match us, ws, h1, h2 with | [_], [], _, _ => rfl), rfl⟩
theorem sh1000 {K : PySem.W.Frag} {f : Addr} {fd : FuncData} (F : FunD K "_law_cell" "_law_cell" (defArgs (top 14)) (defBody (top 14)) (defScope (top 14)) [] [] f fd) : ∀ q ∈ s1000, Shp K fd t1000.ps q.1 q.2.1 q.2.2 ∧ q.2.2.length = t1000.ps.length := by
  intro q hq
  simp only [s1000, List.mem_cons, List.not_mem_nil, or_false] at hq
  rcases hq with rfl
  · exact ⟨shp_of F 2 [] [0, 1] (by decide) (fun _ _ _ _ _ _ us ws h1 h2 => match us, ws, h1, h2 with | [_, _], [], _, _ => rfl), rfl⟩
theorem sh1001 {K : PySem.W.Frag} {f : Addr} {fd : FuncData} (F : FunD K "_law_box" "_law_box" (defArgs (top 15)) (defBody (top 15)) (defScope (top 15)) [] [] f fd) : ∀ q ∈ s1001, Shp K fd t1001.ps q.1 q.2.1 q.2.2 ∧ q.2.2.length = t1001.ps.length := by
  intro q hq
  simp only [s1001, List.mem_cons, List.not_mem_nil, or_false] at hq
  rcases hq with rfl
  · exact ⟨shp_of F 1 [] [0] (by decide) (fun _ _ _ _ _ _ us ws h1 h2 => match us, ws, h1, h2 with | [_], [], _, _ => rfl), rfl⟩
theorem sh1002 {K : PySem.W.Frag} {f : Addr} {fd : FuncData} (F : FunD K "_law_take" "_law_take" (defArgs (top 16)) (defBody (top 16)) (defScope (top 16)) [] [] f fd) : ∀ q ∈ s1002, Shp K fd t1002.ps q.1 q.2.1 q.2.2 ∧ q.2.2.length = t1002.ps.length := by
  intro q hq
  simp only [s1002, List.mem_cons, List.not_mem_nil, or_false] at hq
  rcases hq with rfl
  · exact ⟨shp_of F 2 [] [0, 1] (by decide) (fun _ _ _ _ _ _ us ws h1 h2 => match us, ws, h1, h2 with | [_, _], [], _, _ => rfl), rfl⟩
theorem sh1003 {K : PySem.W.Frag} {f : Addr} {fd : FuncData} (F : FunD K "_law_text" "_law_text" (defArgs (top 17)) (defBody (top 17)) (defScope (top 17)) [] [] f fd) : ∀ q ∈ s1003, Shp K fd t1003.ps q.1 q.2.1 q.2.2 ∧ q.2.2.length = t1003.ps.length := by
  intro q hq
  simp only [s1003, List.mem_cons, List.not_mem_nil, or_false] at hq
  rcases hq with rfl
  · exact ⟨shp_of F 1 [] [0] (by decide) (fun _ _ _ _ _ _ us ws h1 h2 => match us, ws, h1, h2 with | [_], [], _, _ => rfl), rfl⟩
theorem sh1004 {K : PySem.W.Frag} {f : Addr} {fd : FuncData} (F : FunD K "_law_refused" "_law_refused" (defArgs (top 18)) (defBody (top 18)) (defScope (top 18)) [] [] f fd) : ∀ q ∈ s1004, Shp K fd t1004.ps q.1 q.2.1 q.2.2 ∧ q.2.2.length = t1004.ps.length := by
  intro q hq
  simp only [s1004, List.mem_cons, List.not_mem_nil, or_false] at hq
  rcases hq with rfl
  · exact ⟨shp_of F 1 [] [0] (by decide) (fun _ _ _ _ _ _ us ws h1 h2 => match us, ws, h1, h2 with | [_], [], _, _ => rfl), rfl⟩
theorem sh1005 {K : PySem.W.Frag} {f : Addr} {fd : FuncData} (F : FunD K "_law_right" "_law_right" (defArgs (top 19)) (defBody (top 19)) (defScope (top 19)) [] [] f fd) : ∀ q ∈ s1005, Shp K fd t1005.ps q.1 q.2.1 q.2.2 ∧ q.2.2.length = t1005.ps.length := by
  intro q hq
  simp only [s1005, List.mem_cons, List.not_mem_nil, or_false] at hq
  rcases hq with rfl
  · exact ⟨shp_of F 1 [] [0] (by decide) (fun _ _ _ _ _ _ us ws h1 h2 => match us, ws, h1, h2 with | [_], [], _, _ => rfl), rfl⟩
theorem sh1006 {K : PySem.W.Frag} {f : Addr} {fd : FuncData} (F : FunD K "law" "law" (defArgs (top 20)) (defBody (top 20)) (defScope (top 20)) [] [] f fd) : ∀ q ∈ s1006, Shp K fd t1006.ps q.1 q.2.1 q.2.2 ∧ q.2.2.length = t1006.ps.length := by
  intro q hq
  simp only [s1006, List.mem_cons, List.not_mem_nil, or_false] at hq
  rcases hq with rfl
  · exact ⟨shp_of F 1 [] [0] (by decide) (fun _ _ _ _ _ _ us ws h1 h2 => match us, ws, h1, h2 with | [_], [], _, _ => rfl), rfl⟩
theorem md {K : PySem.W.Frag} {h : Heap} {mg : Str → Option Value} (X : K.In h) (G : h.Ns mainGlobals mg) (c : He.SaysD fa dfs K) (ck : kitM file kn xn K = true) : MdOk K mg file T mdl where
  blt := by
    intro x hx
    simp only [bltNames, List.mem_cons, List.not_mem_nil, or_false] at hx
    rcases hx with rfl | rfl | rfl | rfl | rfl | rfl | rfl | rfl | rfl | rfl | rfl | rfl | rfl | rfl | rfl | rfl | rfl | rfl
    · exact He.free_ok X G (c.fact 14 (f := .free "len") rfl)
    · exact He.free_ok X G (c.fact 15 (f := .free "abs") rfl)
    · exact He.free_ok X G (c.fact 16 (f := .free "max") rfl)
    · exact He.free_ok X G (c.fact 17 (f := .free "min") rfl)
    · exact He.free_ok X G (c.fact 18 (f := .free "int") rfl)
    · exact He.free_ok X G (c.fact 19 (f := .free "str") rfl)
    · exact He.free_ok X G (c.fact 20 (f := .free "repr") rfl)
    · exact He.free_ok X G (c.fact 21 (f := .free "list") rfl)
    · exact He.free_ok X G (c.fact 22 (f := .free "tuple") rfl)
    · exact He.free_ok X G (c.fact 23 (f := .free "isinstance") rfl)
    · exact He.free_ok X G (c.fact 24 (f := .free "range") rfl)
    · exact He.free_ok X G (c.fact 25 (f := .free "bool") rfl)
    · exact He.free_ok X G (c.fact 26 (f := .free "dict") rfl)
    · exact He.free_ok X G (c.fact 27 (f := .free "all") rfl)
    · exact He.free_ok X G (c.fact 28 (f := .free "any") rfl)
    · exact He.free_ok X G (c.fact 29 (f := .free "sum") rfl)
    · exact He.free_ok X G (c.fact 30 (f := .free "sorted") rfl)
    · exact He.free_ok X G (c.fact 31 (f := .free "set") rfl)
  glo := by
    intro p hp
    simp only [mdl, glo, List.mem_cons, List.not_mem_nil, or_false] at hp
    rcases hp with rfl
    · obtain ⟨t, e⟩ := He.int_ok X G (c.fact 32 (f := .int "GREATEST_DIGIT" 9) rfl)
      exact ⟨_, rfl, _, e, ⟨t, rfl⟩⟩
  kit := (kitM_inv X G ck).1
  ekit := (kitM_inv X G ck).2.1
  kn := (kitM_inv X G ck).2.2.1
  xn := (kitM_inv X G ck).2.2.2
  fns := by
    intro x i fr sh hx
    have hm := mem_of_lookup hx
    simp only [mdl, fns, List.mem_cons, List.not_mem_nil, or_false, Prod.mk.injEq] at hm
    rcases hm with ⟨rfl, rfl, rfl, rfl⟩ | ⟨rfl, rfl, rfl, rfl⟩ | ⟨rfl, rfl, rfl, rfl⟩ | ⟨rfl, rfl, rfl, rfl⟩ | ⟨rfl, rfl, rfl, rfl⟩ | ⟨rfl, rfl, rfl, rfl⟩ | ⟨rfl, rfl, rfl, rfl⟩ | ⟨rfl, rfl, rfl, rfl⟩ | ⟨rfl, rfl, rfl, rfl⟩ | ⟨rfl, rfl, rfl, rfl⟩ | ⟨rfl, rfl, rfl, rfl⟩ | ⟨rfl, rfl, rfl, rfl⟩ | ⟨rfl, rfl, rfl, rfl⟩ | ⟨rfl, rfl, rfl, rfl⟩
    · obtain ⟨fd, F⟩ := c.def_ 0 (d := d0) rfl
      exact ⟨t0, _, fd, [], [], by simp [T], rfl, He.glo_ok X G (c.fact 0 (f := .glo "is_integer") rfl), F, sh0 F⟩
    · obtain ⟨fd, F⟩ := c.def_ 1 (d := d2) rfl
      exact ⟨t2, _, fd, [], [], by simp [T], rfl, He.glo_ok X G (c.fact 1 (f := .glo "is_digit") rfl), F, sh2 F⟩
    · obtain ⟨fd, F⟩ := c.def_ 2 (d := d3) rfl
      exact ⟨t3, _, fd, [], [], by simp [T], rfl, He.glo_ok X G (c.fact 2 (f := .glo "are_digits") rfl), F, sh3 F⟩
    · obtain ⟨fd, F⟩ := c.def_ 3 (d := d4) rfl
      exact ⟨t4, _, fd, [], [], by simp [T], rfl, He.glo_ok X G (c.fact 3 (f := .glo "row_text") rfl), F, sh4 F⟩
    · obtain ⟨fd, F⟩ := c.def_ 4 (d := d5) rfl
      exact ⟨t5, _, fd, [], [], by simp [T], rfl, He.glo_ok X G (c.fact 4 (f := .glo "digit_of") rfl), F, sh5 F⟩
    · obtain ⟨fd, F⟩ := c.def_ 5 (d := d6) rfl
      exact ⟨t6, _, fd, [], [], by simp [T], rfl, He.glo_ok X G (c.fact 5 (f := .glo "row_of") rfl), F, sh6 F⟩
    · obtain ⟨fd, F⟩ := c.def_ 6 (d := d7) rfl
      exact ⟨t7, _, fd, [], [], by simp [T], rfl, He.glo_ok X G (c.fact 6 (f := .glo "read_row") rfl), F, sh7 F⟩
    · obtain ⟨fd, F⟩ := c.def_ 7 (d := d1000) rfl
      exact ⟨t1000, _, fd, [], [], by simp [T], rfl, He.glo_ok X G (c.fact 7 (f := .glo "_law_cell") rfl), F, sh1000 F⟩
    · obtain ⟨fd, F⟩ := c.def_ 8 (d := d1001) rfl
      exact ⟨t1001, _, fd, [], [], by simp [T], rfl, He.glo_ok X G (c.fact 8 (f := .glo "_law_box") rfl), F, sh1001 F⟩
    · obtain ⟨fd, F⟩ := c.def_ 9 (d := d1002) rfl
      exact ⟨t1002, _, fd, [], [], by simp [T], rfl, He.glo_ok X G (c.fact 9 (f := .glo "_law_take") rfl), F, sh1002 F⟩
    · obtain ⟨fd, F⟩ := c.def_ 10 (d := d1003) rfl
      exact ⟨t1003, _, fd, [], [], by simp [T], rfl, He.glo_ok X G (c.fact 10 (f := .glo "_law_text") rfl), F, sh1003 F⟩
    · obtain ⟨fd, F⟩ := c.def_ 11 (d := d1004) rfl
      exact ⟨t1004, _, fd, [], [], by simp [T], rfl, He.glo_ok X G (c.fact 11 (f := .glo "_law_refused") rfl), F, sh1004 F⟩
    · obtain ⟨fd, F⟩ := c.def_ 12 (d := d1005) rfl
      exact ⟨t1005, _, fd, [], [], by simp [T], rfl, He.glo_ok X G (c.fact 12 (f := .glo "_law_right") rfl), F, sh1005 F⟩
    · obtain ⟨fd, F⟩ := c.def_ 13 (d := d1006) rfl
      exact ⟨t1006, _, fd, [], [], by simp [T], rfl, He.glo_ok X G (c.fact 13 (f := .glo "law") rfl), F, sh1006 F⟩
end Mp.K02
open PySem PySem.W PySem.Calls PyProof.Rows
theorem K02_holds (hlaw : ∀ ns : List Int, ns.length ≤ 63 → (∀ k ∈ ns, Builtin.Int.intBits k ≤ 1048576) → Mp.CC Mp.K02.P 12 1006 [.scr (ns.map Mp.D.int)] [] (fun d _ => d = .bl true) (fun _ _ _ => False)) : PySem.Challenge.rw_oddfigures_k02_rows_as_text.Holds := by
  w_on; o_law
  refine HandSHeadRun.head_any (r := OpenLaw.row PySem.Challenge.rw_oddfigures_k02_rows_as_text) (q := view (OpenLaw.row PySem.Challenge.rw_oddfigures_k02_rows_as_text).prog [20]) (H := Mp.K02.hk) (ob := Mp.K02.ob) (M := 20000) (loose := Mp.K02.loose) (d := HandSHeadRun.topDef (OpenLaw.row PySem.Challenge.rw_oddfigures_k02_rows_as_text).prog 20) (kwd := []) Mp.K02.ob_eq
    (by kernel_rfl) (fun s => by kernel_rfl) Mp.K02.run (by kernel_rfl) (by kernel_rfl) (by kernel_rfl) (by rfl) (by first | assumption | decide +kernel) (by decide +kernel) ⟨rfl, rfl, rfl, rfl, rfl, by decide +kernel⟩ ?hw ?hc
  case hw => w_witness2
  case hc =>
    refine Mp.walk_ofM (l := PySem.Challenge.rw_oddfigures_k02_rows_as_text) (n := 63) (k := 12) (x := "_law_script") rfl (by decide) (by kernel_rfl) ⟨rfl, by decide, by decide⟩ ?F
    intro w mg fa h Y G hmg0
    obtain ⟨K, KX, c, ck⟩ := Y
    have hmg : mg ("law" : PySem.Str) = some (.ref fa) := by
      have e : (HandSHeadRun.topDef (OpenLaw.row PySem.Challenge.rw_oddfigures_k02_rows_as_text).prog 20).name = ("law" : PySem.Str) := by kernel_rfl
      rw [← e]
      exact hmg0
    obtain ⟨fd, F⟩ := c.def_ 13 (d := Mp.K02.d1006) rfl
    have e := hmg.symm.trans (He.glo_ok KX G (c.fact 13 (f := .glo "law") rfl))
    cases e
    have b := L2.FunD.bindsA (ps := ["_law_script"]) F fun _ _ _ _ _ _ us hl => match us, hl with | [_], _ => rfl
    exact ⟨K, fd, Mp.ERx ⟨K, none⟩, Mp.CC Mp.K02.P 12, 1006, KX, fun s v => b s [v] rfl, hlaw, fun base _ _ => Mp.fns_run (Pg := PySem.Challenge.pw_oddfigures_k02_rows_as_text) (Mp.K02.md KX G c ck) Mp.K02.htop Mp.K02.hP Mp.K02.hT 12 1006 Mp.K02.t1006 _ fd [] [] (by simp [Mp.K02.T]) F⟩
namespace Mp
open PySem PySem.Spec L2 TL
namespace K02
theorem hL : HL P := ⟨fun f h => by unfold P; rw [if_pos h]⟩
theorem tk : TakeP P 1002 1 := fun n h Q X m l k hn hm hm2 hx q => take_ok (a := 7213) (b := 292) (c := 81239) (d := 16) rfl hn (by decide) (by decide) (by decide) (by decide) (by decide) (by decide) (by decide) (by decide) hm hm2 hx q
theorem word_eq {i : Int} (h1 : -9 ≤ i) (h2 : i ≤ 9) : ∃ c, atI (Str.ofString "0123456789").cps.toList (if i < 0 then -i else i) = some c ∧ Txt.mul (Str.ofString "-") (if i < 0 then 1 else 0) ++ (⟨#[c]⟩ : Str) = digS i := by
  have key : ∀ k : Fin 19, (atI (Str.ofString "0123456789").cps.toList (if ((k.val : Int) - 9) < 0 then -((k.val : Int) - 9) else ((k.val : Int) - 9))).map (fun c => Txt.mul (Str.ofString "-") (if ((k.val : Int) - 9) < 0 then 1 else 0) ++ (⟨#[c]⟩ : Str)) = some (digS ((k.val : Int) - 9)) := by decide +kernel
  have e : (((i + 9).toNat : Nat) : Int) - 9 = i := by omega
  have := key ⟨(i + 9).toNat, by omega⟩
  simp only [e] at this
  cases e2 : atI (Str.ofString "0123456789").cps.toList (if i < 0 then -i else i) with
  | none => rw [e2] at this; cases this
  | some c => rw [e2] at this; exact ⟨c, rfl, by simpa using this⟩
section
variable {n : Nat} {h : List CO} {Q : D → List CO → Prop} {X : Nat → List D → List CO → Prop}
theorem text_ok {l : List Int} (hn : 1 ≤ n) (hl : ∀ i ∈ l, -9 ≤ i ∧ i ≤ 9) (hs : l.length ≤ 1000) (q : Q (.str (rowT l)) h) : CC P n 1003 [.tup (l.map D.int)] h Q X := by
  refine CC_of (fn := fn_law_text) rfl (by omega) rfl ?_
  have sz : sizeLine = 16777216 := sizeLine_eq
  simp [fn_law_text, startE, itD, show l.length ≤ sizeLine by omega]
  refine forB_list (CC_mono _) (fun xs st => ∃ (a b : List Int) (v : Sl), l = a ++ b ∧ xs = b.map D.int ∧ st = ⟨[.shr (.tup (l.map D.int)), .own (.lst ((a.map digS).map D.str)), v], h⟩) ⟨[], l, _, rfl, rfl, rfl⟩ ?_ ?_
  · rintro x xs _ ⟨a, b, v, rfl, e, rfl⟩
    cases b with
    | nil => simp at e
    | cons i b =>
      simp at e
      obtain ⟨rfl, rfl⟩ := e
      obtain ⟨i1, i2⟩ := hl i (by simp)
      obtain ⟨c, ix, hw⟩ := word_eq i1 i2
      have l10 : (Str.ofString "0123456789").length ≤ sizeLine := by rw [sz]; decide +kernel
      have lm : (Str.ofString "-").length ≤ 1000 := by decide +kernel
      have lt : (Txt.mul (Str.ofString "-") (if i < 0 then 1 else 0)).length ≤ 2 := by
        have := digT_len i1 i2
        rw [← hw, len_app] at this
        omega
      have al : a.length < sizeLine := by simp at hs; omega
      simp [ix, l10, lm]
      refine ⟨⟨by split <;> omega, by split <;> omega⟩, ?_, al, ?_⟩
      · show _ + 1 ≤ _
        omega
      · refine Rch_of ⟨a ++ [i], b, .shr (.int i), by simp, rfl, ?_⟩
        rw [hw]
        simp
  · rintro _ ⟨a, b, v, e0, e, rfl⟩
    have : b = [] := by simpa using e
    subst this
    rw [List.append_nil] at e0
    subst e0
    by_cases h0 : l = []
    · subst h0
      simp [eqOk, flatD, flatDs, scalD]
      simpa [rowT] using q
    · have hf : ∀ m : List Int, (∀ i ∈ m, -9 ≤ i ∧ i ≤ 9) → flatDs 49 ((m.map digS).map D.str) = true := fun m => by
        induction m with
        | nil => intro _; rfl
        | cons i m ih =>
          intro hm
          have ok1 : okS (digS i) := fun c hc => by
            have := hm i (by simp)
            rw [tl_digT this.1 this.2] at hc
            unfold digT at hc
            split at hc <;> simp at hc <;> omega
          simp only [List.map_cons, flatDs, flatD, ok1.ok, ih fun j hj => hm j (by simp [hj]), Bool.and_self]
      have e3 : ((l.map digS).map (·.length)).sum ≤ 2 * l.length := sum_len fun i hi => (digT_len (hl i hi).1 (hl i hi).2)
      have e4 : (Str.ofString " ").length = 1 := by decide +kernel
      have e5 : (l.map digS).length = l.length := by simp
      have e6 : rowT l = Txt.join (Str.ofString " ") (l.map digS) := by unfold rowT; rw [if_neg h0]
      have e7 : l.map digS ≠ [] := by simpa using h0
      have hf := hf l hl
      rw [e6] at q
      have e8 := strsD_map (l.map digS)
      generalize l.map digS = ys at *
      cases ys with
      | nil => exact absurd rfl e7
      | cons y ys =>
        have z : eqDs ((y :: ys).map D.str) [] = false := by simp [eqDs]
        generalize (y :: ys) = zs at *
        simp [eqOk, flatD, flatDs, hf, z, e8, e4]
        exact ⟨by omega, q⟩
theorem refused_oth {d : D} (hn : 3 ≤ n) (hv : tyOk (view h d) = true) (hd : tyD (view h d) .tuple = false) : CC P n 1004 [d] h Q X = Q (.lst [.str "row", d, .bl true]) h := by
  rw [CC_eq (fn := fn_law_refused) rfl (by omega) rfl]
  simp [fn_law_refused, startE, callB]
  rw [row_text_oth hL (by omega) hv hd]
  simp [excSub]
theorem refused_bad {d : D} (hn : 5 ≤ n) (hv : tyOk d = true) (hs : ∀ ds, d = .tup ds → (∀ x ∈ ds, tyOk x = true) ∧ ds.length ≤ sizeLine) (hd : areDig d = false) : CC P n 1004 [d] h Q X = Q (.lst [.str "row", d, .bl true]) h := by
  rw [CC_eq (fn := fn_law_refused) rfl (by omega) rfl]
  simp [fn_law_refused, startE, callB]
  rw [row_text_bad hL (by omega) hv hs hd]
  simp [excSub]
/-- what the odd things are -/
def Odd (d : D) : Prop := tyOk d = true ∧ isDig d = false ∧ flatD 48 d = true ∧ eqD d d = true
theorem right1 {l k : Nat} {E : EndD} (hn : 7 ≤ n) (hx : Bx (k + 103) h l) (q : ∀ (ds : List Int) (m : Nat) g, (∀ i ∈ ds, -9 ≤ i ∧ i ≤ 9) → ds.length = m → m ≤ 100 → Bx k g l → E.nx ⟨[.shr (.cell l), .un, .un, .shr (.int m), .shr (.tup (ds.map D.int)), .shr (.str (rowT ds)), .un, .un, .un, .un, .un], g⟩) : wSs (CC P (n - 1)) (fn_law_right.body.take 3) ⟨startE fn_law_right [.cell l], h⟩ E := by
  have mC : MonC (CC P (n - 1)) := CC_mono _
  have sz : sizeLine = 16777216 := sizeLine_eq
  simp [fn_law_right, startE]
  refine callB_of (tk _ _ _ _ _ l (k + 102) (by omega) (by decide) (by decide) hx fun m1 g1 m10 m11 bx1 ot1 => ?_)
  simp
  refine callB_of (tk _ _ _ _ _ l (k + 101) (by omega) (by decide) (by decide) bx1 fun m2 g2 m20 m21 bx2 ot2 => ?_)
  simp
  refine callB_of (tk _ _ _ _ _ l (k + 100) (by omega) (by decide) (by decide) bx2 fun w g3 w0 w1 bx3 ot3 => ?_)
  simp
  obtain ⟨d, e, m, rfl, hm⟩ := atI_all (p := fun d => ∃ m : Nat, d = .int m ∧ m ≤ 100) (es := [D.int m1, D.int m2, D.int 100]) (by
    simp only [List.forall_mem_cons, List.not_mem_nil, false_implies, implies_true, and_true]
    exact ⟨⟨m1.toNat, by rw [Int.toNat_of_nonneg m10], by omega⟩, ⟨m2.toNat, by rw [Int.toNat_of_nonneg m20], by omega⟩, ⟨100, rfl, by omega⟩⟩) w0 (by simpa using w1)
  simp [e]
  rw [itD_range1 (by omega) (by omega)]
  simp
  refine ⟨by omega, ?_⟩
  refine lcB_list mC (fun xs acc st => ∃ (ds : List Int) (g : List CO), st = ⟨[.shr (.cell l), .un, .un, .shr (.int m), .un, .un, .un, .un, .un, .un, .un], g⟩ ∧ acc = ds.map D.int ∧ (∀ i ∈ ds, -9 ≤ i ∧ i ≤ 9) ∧ ds.length + xs.length = m ∧ Bx (k + xs.length) g l) ⟨[], g3, rfl, rfl, by simp, by simp, bx3.mono (by simp; omega)⟩ ?_ ?_
  · rintro x xs _ _ ⟨ds, g, rfl, rfl, hd, hl, bx⟩
    simp
    refine callB_of (tk _ _ _ _ _ l (k + xs.length) (by omega) (by decide) (by decide) (by simpa [Nat.add_assoc] using bx) fun i g2 i0 i1 bx2 ot2 => ?_)
    simp
    refine Rcl_of ⟨ds ++ [i - 9], g2, rfl, by simp, fun j hj => ?_, by simp at hl ⊢; omega, bx2⟩
    rcases List.mem_append.mp hj with z | z
    · exact hd j z
    · simp at z; omega
  rintro _ _ ⟨ds, g2, rfl, rfl, hd, hl, bx2⟩
  simp at hl
  simp
  refine callB_of (text_ok (by omega) hd (by omega) ?_)
  simp
  exact q ds m g2 hd hl hm (bx2.mono (by simp))
theorem right_ok {l k : Nat} (hn : 7 ≤ n) (hx : Bx (k + 110) h l) (q : ∀ h', Bx k h' l → Q (.bl true) h') : CC P n 1005 [.cell l] h Q X := by
  refine CC_of (fn := fn_law_right) rfl (by omega) rfl ?_
  have mC : MonC (CC P (n - 1)) := CC_mono _
  have sz : sizeLine = 16777216 := sizeLine_eq
  refine cut mC 3 (fun st => ∃ (ds : List Int) (m : Nat) (g : List CO), (∀ i ∈ ds, -9 ≤ i ∧ i ≤ 9) ∧ ds.length = m ∧ m ≤ 100 ∧ Bx (k + 7) g l ∧ st = ⟨[.shr (.cell l), .un, .un, .shr (.int m), .shr (.tup (ds.map D.int)), .shr (.str (rowT ds)), .un, .un, .un, .un, .un], g⟩) ?_ ?_
  · exact right1 hn hx fun ds m g hd hl hm bx => ⟨ds, m, g, hd, hl, hm, bx, rfl⟩
  rintro _ ⟨ds, m, g, hd, hl, hm, bx, rfl⟩
  obtain ⟨t1, t2⟩ := rowT_ok hd
  have rl := rowL_rowT hd
  have e1 : ∀ R : D → List CO → Prop, ∀ Y, CC P (n - 1) 4 [.tup (ds.map D.int)] g R Y = R (.str (rowT ds)) g := fun R Y => row_text_eq hL (by omega) hd (by omega)
  have e2 : ∀ R : D → List CO → Prop, ∀ Y, CC P (n - 1) 7 [.str (rowT ds)] g R Y = R (.tup (ds.map D.int)) g := fun R Y => by
    rw [read_row_str hL (by omega) (by omega), rl]
  refine cut mC 3 (fun st => st = ⟨[.shr (.cell l), .un, .un, .shr (.int m), .shr (.tup (ds.map D.int)), .shr (.str (rowT ds)), .un, .un, .un, .un, .un], g⟩) ?_ ?_
  · simp [fn_law_right, callB, e1, e2, eqOk, flatD, flat_ints, eqDs_ints, tyOk, tyD, itD, show ds.length ≤ sizeLine by omega]
    rw [lcB_pure (fun _ => []) (fun x hx R => by
      obtain ⟨i, hi, rfl⟩ := List.mem_map.mp hx
      simp [tyOk, tyD])]
    have fm : List.flatMap (fun _ => ([] : List D)) (ds.map D.int) = [] := by simp
    rw [fm]
    simp [eqOk, flatD, flatDs, eqDs, callB, e1, e2]
    exact Rch_of rfl
  rintro _ rfl
  refine cut mC 2 (fun st => ∃ v6 v7 v8 g2, Bx k g2 l ∧ st = ⟨[.shr (.cell l), .un, .un, .shr (.int m), .shr (.tup (ds.map D.int)), .shr (.str (rowT ds)), v6, v7, v8, .un, .un], g2⟩) ?_ ?_
  · simp [fn_law_right]
    refine callB_of (tk _ _ _ _ _ l (k + 6) (by omega) (by omega) (log2_lt (k := 20) (by omega) (by decide)) bx fun sp g1 p0 p1 bx1 ot1 => ?_)
    simp
    refine callB_of (tk _ _ _ _ _ l (k + 5) (by omega) (by decide) (by decide) bx1 fun w g2 w0 w1 bx2 ot2 => ?_)
    simp
    obtain ⟨d, e, od⟩ := atI_all (p := Odd) (es := [D.int 10, D.int (-10), D.bl true, D.non, D.str (Str.ofString "1"), D.tup [D.int 1], D.int 1000000000000000000000000000000]) (by
      simp only [List.forall_mem_cons, List.not_mem_nil, false_implies, implies_true, and_true]
      exact ⟨⟨rfl, rfl, rfl, by decide +kernel⟩, ⟨rfl, rfl, rfl, by decide +kernel⟩, ⟨rfl, rfl, rfl, by decide +kernel⟩, ⟨rfl, rfl, rfl, by decide +kernel⟩, ⟨rfl, rfl, by decide +kernel, by decide +kernel⟩, ⟨rfl, rfl, by decide +kernel, by decide +kernel⟩, ⟨rfl, rfl, rfl, by decide +kernel⟩⟩) w0 (by simpa using w1)
    obtain ⟨o1, o2, o3, o4⟩ := od
    obtain ⟨s, rfl⟩ := Int.eq_ofNat_of_zero_le p0
    simp [e, cutL_take, cutL_drop, itD]
    refine ⟨by omega, by omega, rfl, by omega, ?_⟩
    have vw : view (g2 ++ [CO.dic [D.int 1] [D.int 2]]) (.cell g2.length) = .dic [.int 1] [.int 2] := by
      show (match (g2 ++ [CO.dic [D.int 1] [D.int 2]])[g2.length]? with | some (.lst ds) => D.lst ds | some (.dic ks vs) => .dic ks vs | some (.obj c ds) => .obj c ds | _ => .cell g2.length) = _
      simp
    have good : ∀ x ∈ ([D.tup (List.take s (List.map D.int ds) ++ d :: List.drop s (List.map D.int ds)), D.lst (List.map D.int ds), D.str (rowT ds), D.non, D.int 3, D.cell g2.length] : List D),
        itEq x x = some true ∧ ∀ (R : D → List CO → Prop) Y, CC P (n - 1) 1004 [x] (g2 ++ [CO.dic [D.int 1] [D.int 2]]) R Y = R (.lst [.str "row", x, .bl true]) (g2 ++ [CO.dic [D.int 1] [D.int 2]]) := by
      simp only [List.forall_mem_cons, List.not_mem_nil, false_implies, implies_true, and_true]
      refine ⟨⟨?_, fun R Y => refused_bad (by omega) rfl (fun es e => ?_) ?_⟩, ⟨?_, fun R Y => refused_oth (by omega) rfl rfl⟩, ⟨?_, fun R Y => refused_oth (by omega) rfl rfl⟩, ⟨rfl, fun R Y => refused_oth (by omega) rfl rfl⟩, ⟨rfl, fun R Y => refused_oth (by omega) rfl rfl⟩, ⟨?_, fun R Y => refused_oth (by omega) (by rw [vw]; rfl) (by rw [vw]; rfl)⟩⟩
      · have f1 : flatDs 49 (List.take s (List.map D.int ds) ++ d :: List.drop s (List.map D.int ds)) = true := by
          rw [flatDs_app]
          simp only [flatDs, flatD_up o3, Bool.and_true, Bool.and_eq_true]
          rw [← List.map_take, ← List.map_drop]
          exact ⟨flat_ints _ _, trivial, flat_ints _ _⟩
        have f2 : eqDs (List.take s (List.map D.int ds) ++ d :: List.drop s (List.map D.int ds)) (List.take s (List.map D.int ds) ++ d :: List.drop s (List.map D.int ds)) = true := by
          rw [eqDs_app, eqDs_cons, o4]
          rw [← List.map_take, ← List.map_drop, eqDs_ints, eqDs_ints]
          rfl
        simp only [itEq, flatD, f1, Bool.and_self, if_true, eqD_tup, f2]
      · cases e
        refine ⟨fun x hx => ?_, by simp; omega⟩
        rcases List.mem_append.mp hx with z | z
        · obtain ⟨i, _, rfl⟩ := List.mem_map.mp (List.mem_of_mem_take z); rfl
        · rcases List.mem_cons.mp z with z | z
          · rw [z]; exact o1
          · obtain ⟨i, _, rfl⟩ := List.mem_map.mp (List.mem_of_mem_drop z); rfl
      · simp [areDig, o2]
      · simp [itEq, flatD, flat_ints, eqDs_ints]
      · simp [itEq, flatD, t1.ok]
      · simp [itEq]
    refine forB_ok mC (fun _ st => ∃ v, st = ⟨[.shr (.cell l), .un, .un, .shr (.int m), .shr (.tup (ds.map D.int)), .shr (.str (rowT ds)), .shr (.int s), .shr d, v, .un, .un], g2 ++ [CO.dic [D.int 1] [D.int 2]]⟩) ⟨_, rfl⟩ ?_ ?_
    · rintro i x _ hi ⟨v, rfl⟩
      obtain ⟨z1, z2⟩ := good x (List.mem_of_getElem? hi)
      have r1 : itEq (.str (Str.ofString "row")) (.str (Str.ofString "row")) = some true := by decide +kernel
      have r2 : itEq (.bl true) (.bl true) = some true := by decide +kernel
      simp [callB, z2, itEqs, z1, r1, r2]
      exact Rch_of ⟨_, rfl⟩
    · rintro _ ⟨v, rfl⟩
      simp
      exact Rch_of ⟨_, _, _, _, (bx2.mono (by omega)).app, rfl⟩
  rintro _ ⟨v6, v7, v8, g2, bx2, rfl⟩
  have e1' : ∀ (g : List CO) (R : D → List CO → Prop), ∀ Y, CC P (n - 1) 4 [.tup (ds.map D.int)] g R Y = R (.str (rowT ds)) g := fun g R Y => row_text_eq hL (by omega) hd (by omega)
  simp [fn_law_right, callB]
  rw [refused_oth (by omega) (by rw [view_cell (ds := ds.map D.int) (by simp)]; rfl) (by rw [view_cell (ds := ds.map D.int) (by simp)]; rfl)]
  have at1 : atI [D.str (Str.ofString "row"), D.cell g2.length, D.bl true] 1 = some (.cell g2.length) := rfl
  have vc : ∀ es : List D, view (g2 ++ [CO.lst es]) (.cell g2.length) = .lst es := fun es => view_cell (by simp)
  simp [at1, vc, eqOk, flatD, callB, e1', show ds.length < sizeLine by omega]
  have e9 : List.map D.int ds ++ [D.int 1] = (ds ++ [1]).map D.int := by simp
  rw [e9, eqDs_ints]
  exact ⟨.inr (flat_ints _ _), by rw [if_pos rfl]; exact q _ bx2.app⟩
theorem law_ok {ns : List Int} (hl : ns.length ≤ 63) : CC P 12 1006 [.scr (ns.map D.int)] [] (fun d _ => d = .bl true) X := by
  refine CC_of (fn := fn_law) rfl (by omega) rfl ?_
  have mC : MonC (CC P 11) := CC_mono _
  simp [fn_law, startE]
  obtain ⟨B, hB, b0, b1⟩ : ∃ B : Int, (if 2 < if (ns.length : Int) < 10 then (ns.length : Int) else 10 then if (ns.length : Int) < 10 then (ns.length : Int) else 10 else 2) = B ∧ 0 ≤ B ∧ B ≤ 10 := ⟨_, rfl, by split <;> split <;> omega, by split <;> split <;> omega⟩
  rw [hB, itD_range1 (by omega) (by omega)]
  simp
  refine ⟨by rw [sizeLine_eq]; omega, ?_⟩
  refine forB_ok mC (fun i st => ∃ v h', st = ⟨[.shr (.scr (ns.map D.int)), v], h'⟩) ⟨_, _, rfl⟩ ?_ ?_
  · rintro i x _ hi ⟨v, h1, rfl⟩
    have hil : i < B.toNat := by simpa using lt_of_get hi
    have ex : D.int i = x := by simpa [List.getElem?_map, List.getElem?_range hil] using hi
    subst ex
    simp
    refine callB_of (cell_ok (a := 152031077) (b := 5279) rfl (by decide) (by omega) (by omega) fun j => ?_)
    simp
    refine callB_of (box_ok rfl (by decide) fun h2 bx _ _ => ?_)
    simp
    refine callB_of (right_ok (k := 0) (by decide) (bx.mono (by decide)) fun h3 bx3 => ?_)
    simp
    exact Rch_of ⟨_, _, rfl⟩
  · rintro _ ⟨v, h1, rfl⟩
    simp
end
end K02
end Mp
theorem PySem.Challenge.cw_oddfigures_k02_rows_as_text_holds : PySem.Challenge.rw_oddfigures_k02_rows_as_text.Holds :=
  K02_holds fun ns hl _ => Mp.K02.law_ok hl
