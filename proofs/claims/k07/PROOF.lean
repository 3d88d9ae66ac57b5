import PyProof.Rows.All
import Wide.All
import OpenK.AllK
import Wide.FinOn
import HandS.ForMost
import HandS.ForExc
import HandS.Wide
import HandS.IsInst
import HandS.Flow
import HandS.Defaults
import HandS.RaiseMore
import HandS.StrMore
import HandS.TupAny
import HandS.TupMul
import HandS.TupLe
import HandS.Codes
import HandS.HeadHook2
import HandS.MakeKw
import HandS.Property
import HandS.OwnEq
import HandS.ExcField
import HandS.ExcIs
import HandS.TryMany
import HandS.Style
import HandS.FStr
import HandS.SortInts
import HandS.TupSets
import HandS.SortRule
import HandS.Star
import HandS.NoneIn
import HandS.Deep
import HandS.Ends
import KE.KExcSuper
import KE.KExcIs
import HandS.Conv
import HandS.SetFor
import HandS.Strs
import HandS.SlotsOwn
import HandS.Zip
import KE.KItemsList
import PyProof.EqKinds
import HandS.Lambda
import KE.KStateDown
import HandS.EndBits
import HandS.HeadEnd
import HandS.HeadHook1
import HandS.Head0
import HandS.Head1
import HandS.Head2
import HandS.Words
import HandS.WordsExc
import PySem.Challenge.RW_oddfigures_k07_rows_judged
set_option Elab.async false
set_option linter.all false
set_option maxRecDepth 100000
set_option maxHeartbeats 0
/-! Mp: a small Python over plain data. D: data; Ex, Sm: its syntax; wE, wS: what must hold ahead so that something holds behind. -/
namespace Mp
open PySem PySem.Spec PyProof.Rows L2

/-- data; a list is a frozen one, cell l: the mutable object number l, scr: the script -/
inductive D where
  | non | bl (b : Bool) | int (i : Int) | str (x : Str)
  | tup (ds : List D) | lst (ds : List D) | dic (ks vs : List D)
  | obj (c : Nat) (ds : List D) | exc (c : Nat) (ds : List D) | cell (l : Nat)
  | scr (ds : List D)
  deriving Inhabited

/-- a mutable object -/
inductive CO where
  | dead | lst (ds : List D) | dic (ks vs : List D) | obj (c : Nat) (ds : List D)
  deriving Inhabited

/-- a slot: unset, a value that may be shared, a container that this slot alone holds, a caught exception -/
inductive Sl where
  | un | shr (d : D) | own (d : D) | exc (c : Nat) (ds : List D)
  deriving Inhabited

structure Stt where
  e : List Sl
  h : List CO

/-- classes that isinstance is asked for -/
inductive Ty where
  | int | bool | str | list | tuple | dict | own (c : Nat)
  deriving DecidableEq

inductive Op where
  | add | sub | mul | fdiv | mod | pow | neg | fdivN | modN
  | eq | ne | eqL | neL | inM | ninM | lt | le | gt | ge | isN | isNotN | in_ | notIn
  | len | abs | max2 | min2 | toInt | toStr | repr | toList | toTuple | item
  | isi (ts : List Ty) (tupled : Bool)
  | sl (lo hi : Bool) | rev | join | split | rmpre | starts | index | find | fld (x : Str)
  | all | any | sum | maxL | minL | sorted | diff (tp : Bool) | rng1 | rng2 | isT | isF | isNT | isNF
  deriving DecidableEq

/-- how a method is called: o.m(..), o.p, len(o), x in o, x not in o, -o, o == x, o != x, str(o) -/
inductive MK where
  | dot | prop | len | in_ | notIn | neg | eq | ne | str
  deriving DecidableEq

inductive ItK where
  | seq | range1 | range2 | zip2
  deriving DecidableEq

inductive Tg where
  | nm (i : Nat) | tp (ts : List Tg)

inductive Ex where
  | con (d : D)
  | var (i : Nat) | brw (i : Nat) | mov (i : Nat)
  | op (o : Op) (es : List Ex)
  | tup (es : List Ex) | lst (es : List Ex) | dct (ks vs : List Ex)
  | disp (tup : Bool) (fl : List Bool) (es : List Ex)
  | fst (es : List Ex)
  | andV (a b : Ex) | orV (a b : Ex) | notV (a : Ex)
  | tAnd (a b : Ex) | tOr (a b : Ex) | tNot (a : Ex) | tru (a : Ex) | tb (a : Ex)
  | ite (t a b : Ex)
  | chn (p q : Op) (a b c : Ex)
  | call (f : Nat) (es : List Ex) (ar : List (Sum Nat D))
  | cel (a : Ex)
  | pop (i : Nat) (a : Ex)
  | lc (k : ItK) (src : List Ex) (tg : Tg) (ifs : List Ex) (elt : Ex) (own : List Nat)
  | make (c : Nat) (fz : Bool) (f : Nat) (es : List Ex) (ar : List (Sum Nat D))
  | meth (k : MK) (c f : Nat) (es : List Ex) (ar : List (Sum Nat D))
  | xfl (i : Nat) (x : Str) | xis (i c : Nat)

inductive Sm where
  | pass
  | ret (a : Ex)
  | asg (tg : Tg) (a : Ex)
  | asgO (i : Nat) (a : Ex)
  | setI (i : Nat) (k a : Ex)
  | app (i : Nat) (a : Ex)
  | exp (a : Ex)
  | ite (t : Ex) (a b : List Sm)
  | for_ (k : ItK) (src : List Ex) (tg : Tg) (body : List Sm)
  | whl (t : Ex) (body : List Sm)
  | brk | cnt
  | rais (c : Nat) (es : List Ex)
  | tryA (body : List Sm) (cs : List (Nat × Nat)) (suites : List (List Sm))
  | par (is : List Nat) (es : List Ex)
  | setF (i : Nat) (x : Str) (a : Ex)

abbrev PD := D → Stt → Prop
abbrev PX := Nat → List D → Stt → Prop
/-- what calls do -/
abbrev Calls := Nat → List D → List CO → (D → List CO → Prop) → (Nat → List D → List CO → Prop) → Prop

def view (h : List CO) : D → D
  | .cell l => match h[l]? with
    | some (.lst ds) => .lst ds
    | some (.dic ks vs) => .dic ks vs
    | some (.obj c ds) => .obj c ds
    | _ => .cell l
  | d => d
/-- what a slot holds -/
def rdS (e : List Sl) (i : Nat) : Option D := match e[i]? with
  | some (.shr d) => some d
  | some (.own d) => some d
  | _ => none

/-! ### the classes of the package: names, fields in the order in which __init__ sets them; errors from 100 on -/
def clsTab : List (Str × List Str) := [("Scheme", ["own_base", "own_digits", "own_bars", "own_parts"]), ("Form", ["own_terms", "own_target", "found", "opened"]), ("Search", ["scheme", "came", "parts", "best"]),
  ("Costs", ["prices", "ways", "before", "costs", "best", "nexts"]), ("Points", ["scheme", "bottom", "first", "most", "ways"])]
def excTab : List (Str × List Str) := [("FigureError", []), ("InvalidBase", ["value"]), ("InvalidDigits", ["value"]), ("InvalidBars", ["value"]), ("InvalidRow", ["row"]), ("InvalidText", ["text"]), ("InvalidNumber", ["number"]), ("InvalidLength", ["length"]),
  ("InvalidTerms", ["value"]), ("InvalidTerm", ["term"]), ("InvalidRows", ["rows"]), ("InvalidState", ["state"]), ("InvalidReading", ["reading"]), ("InvalidPrices", ["prices"]), ("InvalidLag", ["value"]), ("InvalidTable", ["value"]), ("InvalidRatio", ["top", "bottom"]),
  ("InvalidWord", ["word"]), ("InvalidName", ["name"]), ("InvalidLine", ["line"]), ("UnknownDigit", ["digit"]), ("UnknownName", ["name"]), ("UnlikeBases", ["value"]), ("UnlikeForms", ["one", "other"]), ("NameTaken", ["name"]), ("NotWritten", ["number"]), ("InUse", ["name"]),
  ("NotScheme", ["value"]), ("NotForm", ["value"]), ("NotMachine", ["value"]), ("TooMany", ["most"]), ("NothingToUndo", [])]
def clsE (c : Nat) : Str × List Str := if c < 100 then clsTab.getD c (("" : Str), []) else excTab.getD (c - 100) (("" : Str), [])
def clsN (c : Nat) : Str := (clsE c).1
def fldsOf (c : Nat) : List Str := (clsE c).2
/-- the place of a field -/
def fldIx (c : Nat) (x : Str) : Option Nat := (fldsOf c).idxOf? x
/-- an error of the class c is one of the class k -/
def excSub (c k : Nat) : Bool := c == k || k == 100
/-- xs[lo:hi] -/
def cutL {α : Type} (xs : List α) (lo hi : Option Int) : List α := (xs.drop (HT.sIx xs.length 0 lo)).take (HT.sIx xs.length xs.length hi - HT.sIx xs.length 0 lo)
mutual
/-- every cell that is named has a number below n -/
def cellsLt (n : Nat) : D → Bool
  | .cell l => decide (l < n)
  | .tup ds => cellsLts n ds
  | .lst ds => cellsLts n ds
  | .dic ks vs => cellsLts n ks && cellsLts n vs
  | .obj _ ds => cellsLts n ds
  | .exc _ ds => cellsLts n ds
  | .scr ds => cellsLts n ds
  | .non => true
  | .bl _ => true
  | .int _ => true
  | .str _ => true
def cellsLts (n : Nat) : List D → Bool
  | [] => true
  | d :: ds => cellsLt n d && cellsLts n ds
end
/-! ### operations on values -/
def truD : D → Option Bool
  | .non => some false
  | .bl b => some b
  | .int i => some (i != 0)
  | .lst ds => some (!ds.isEmpty)
  | .tup ds => some (!ds.isEmpty)
  | _ => none
def tyD : D → Ty → Bool
  | .bl _, .bool => true
  | .bl _, .int => true
  | .int _, .int => true
  | .str _, .str => true
  | .lst _, .list => true
  | .tup _, .tuple => true
  | .dic _ _, .dict => true
  | .obj c _, .own k => c == k
  | _, _ => false
/-- has a type that isinstance can be asked of -/
def tyOk : D → Bool
  | .cell _ => false
  | .exc _ _ => false
  | .scr _ => false
  | _ => true
def scalD : D → Bool
  | .non | .bl _ | .int _ | .str _ => true
  | _ => false
/-- equal data, as Python compares: True is 1 -/
def b2iD (b : Bool) : Int := if b then 1 else 0
mutual
def eqD : D → D → Bool
  | .non, .non => true
  | .bl a, .bl b => a == b
  | .bl a, .int b => b2iD a == b
  | .int a, .bl b => a == b2iD b
  | .int a, .int b => a == b
  | .str a, .str b => decide (a = b)
  | .tup a, .tup b => eqDs a b
  | .lst a, .lst b => eqDs a b
  | _, _ => false
def eqDs : List D → List D → Bool
  | [], [] => true
  | a :: as, b :: bs => eqD a b && eqDs as bs
  | _, _ => false
end
mutual
/-- data that == is told of: no dicts, objects, cells; not too deep -/
def flatD : Nat → D → Bool
  | _, .non => true
  | _, .bl _ => true
  | _, .int _ => true
  | _, .str x => PyData.strOk x
  | k, .tup ds => match k with
    | 0 => false
    | k + 1 => flatDs k ds
  | k, .lst ds => match k with
    | 0 => false
    | k + 1 => flatDs k ds
  | _, .dic _ _ => false
  | _, .obj _ _ => false
  | _, .exc _ _ => false
  | _, .cell _ => false
  | _, .scr _ => false
def flatDs : Nat → List D → Bool
  | _, [] => true
  | n, d :: ds => flatD n d && flatDs n ds
end
/-- == can be told of -/
def eqOk (a b : D) : Bool := (scalD a && scalD b) || (flatD 50 a && flatD 50 b)
/-- == of two items: of one and the same object, or of plain data -/
def itEq (a b : D) : Option Bool := match a, b with
  | .cell l, .cell m => if l = m then some true else none
  | a, b => if (flatD 50 a && flatD 50 b) = true then some (eqD a b) else none
def itEqs : List D → List D → Option Bool
  | [], [] => some true
  | a :: as, b :: bs => (match itEq a b, itEqs as bs with
    | some x, some y => some (x && y)
    | _, _ => none)
  | _, _ => some false
def eqLW (neg : Bool) (ds : List D) (Q : D → Prop) : Prop := match ds with
  | [.lst as, .lst bs] => ∃ k, itEqs as bs = some k ∧ Q (.bl (if neg = true then !k else k))
  | _ => False
mutual
/-- as the kit's data -/
def toR : D → PyData
  | .non => .none
  | .bl b => .bool b
  | .int i => .int i
  | .str x => .str x
  | .tup ds => .tuple (toRs ds)
  | .lst ds => .list (toRs ds)
  | .dic ks vs => .dict ((toRs ks).zip (toRs vs))
  | .obj _ _ => .none
  | .exc _ _ => .none
  | .cell _ => .none
  | .scr ds => .list (toRs ds)
def toRs : List D → List PyData
  | [] => []
  | d :: ds => toR d :: toRs ds
end
mutual
/-- data that repr is told of: no objects, no cells; not too deep -/
def rokD : Nat → D → Bool
  | _, .non => true
  | _, .bl _ => true
  | _, .int _ => true
  | _, .str _ => true
  | k, .tup ds => match k with
    | 0 => false
    | k + 1 => rokDs k ds
  | k, .lst ds => match k with
    | 0 => false
    | k + 1 => rokDs k ds
  | k, .dic ks vs => match k with
    | 0 => false
    | k + 1 => decide (ks.length = vs.length) && rokDs k ks && rokDs k vs
  | _, .obj _ _ => false
  | _, .exc _ _ => false
  | _, .cell _ => false
  | _, .scr _ => false
def rokDs : Nat → List D → Bool
  | _, [] => true
  | n, d :: ds => rokD n d && rokDs n ds
end
def reprD (d : D) : Option Str := if (rokD 50 d && (toR d).showable && decide ((toR d).shown.length ≤ sizeLine)) = true then some (toR d).shown else none
def int1 (ds : List D) (k : Int → Prop) : Prop := match ds with
  | [.int i] => k i
  | _ => False
def int2 (ds : List D) (k : Int → Int → Prop) : Prop := match ds with
  | [.int i, .int j] => k i j
  | _ => False
def any1 (ds : List D) (k : D → Prop) : Prop := match ds with
  | [a] => k a
  | _ => False
def any2 (ds : List D) (k : D → D → Prop) : Prop := match ds with
  | [a, b] => k a b
  | _ => False
/-- the items of a list or a tuple -/
def seqD : D → Option (List D)
  | .lst ds => some ds
  | .tup ds => some ds
  | .scr ds => some ds
  | _ => none
/-- an int or a text -/
def keyD : D → Bool
  | .int _ => true
  | .str _ => true
  | _ => false
def isNonD : D → Bool
  | .non => true
  | _ => false
def mulW (ds : List D) (Q : D → Prop) : Prop := match ds with
  | [.int i, .int j] => CMul i j ∧ Q (.int (i * j))
  | [.lst ds, .int k] => (0 ≤ k ∧ k ≤ 1000 ∧ ds.length ≤ 1000) ∧ Q (.lst (List.replicate k.toNat ds).flatten)
  | [.str x, .int k] => (0 ≤ k ∧ k ≤ 1000 ∧ x.length ≤ 1000) ∧ Q (.str (Txt.mul x k))
  | _ => False
def addW (ds : List D) (Q : D → Prop) : Prop := match ds with
  | [.int i, .int j] => Q (.int (i + j))
  | [.str x, .str y] => x.length + y.length ≤ sizeLine ∧ Q (.str (x ++ y))
  | [.lst a, .lst b] => a.length + b.length ≤ sizeLine ∧ Q (.lst (a ++ b))
  | [.tup a, .tup b] => a.length + b.length ≤ sizeLine ∧ Q (.tup (a ++ b))
  | _ => False
def cutW (a : D) (lo hi : Option Int) (Q : D → Prop) : Prop := match a with
  | .lst es => Q (.lst (cutL es lo hi))
  | .tup es => Q (.tup (cutL es lo hi))
  | .str z => z.length ≤ sizeLine ∧ Q (.str (cutS z lo hi))
  | _ => False
def slW (lo hi : Bool) (ds : List D) (Q : D → Prop) : Prop := match lo, hi, ds with
  | false, false, [a] => cutW a none none Q
  | true, false, [a, .int i] => cutW a (some i) none Q
  | false, true, [a, .int j] => cutW a none (some j) Q
  | true, true, [a, .int i, .int j] => cutW a (some i) (some j) Q
  | _, _, _ => False
def revW (a : D) (Q : D → Prop) : Prop := match a with
  | .lst es => Q (.lst es.reverse)
  | .tup es => Q (.tup es.reverse)
  | _ => False
/-- the texts of a list -/
def strsD : List D → Option (List Str)
  | [] => some []
  | .str x :: ds => (strsD ds).map (x :: ·)
  | _ :: _ => none
def intsD : List D → Option (List Int)
  | [] => some []
  | .int i :: ds => (intsD ds).map (i :: ·)
  | _ :: _ => none
def blsD : List D → Option (List Bool)
  | [] => some []
  | .bl i :: ds => (blsD ds).map (i :: ·)
  | _ :: _ => none
def joinW (ds : List D) (Q : D → Prop) : Prop := match ds with
  | [.str a, b] => ∃ es ys, seqD b = some es ∧ strsD es = some ys ∧ (ys.map (·.length)).sum + ys.length * a.length ≤ 16777216 ∧ Q (.str (Txt.join a ys))
  | _ => False
def str2 (ds : List D) (k : Str → Str → Prop) : Prop := match ds with
  | [.str a, .str b] => k a b
  | _ => False
def fldW (x : Str) (d : D) (Q : D → Prop) : Prop := match d with
  | .obj c ds => ∃ k v, fldIx c x = some k ∧ ds[k]? = some v ∧ Q v
  | _ => False
def allW (a : D) (Q : D → Prop) : Prop := ∃ es bs, a = .lst es ∧ blsD es = some bs ∧ Q (.bl (bs.all id))
def sumW (a : D) (Q : D → Prop) : Prop := ∃ es ns, a = .lst es ∧ intsD es = some ns ∧ Q (.int ns.sum)
def maxL : List Int → Int
  | [] => 0
  | [a] => a
  | a :: l => if maxL l > a then maxL l else a
def minL : List Int → Int
  | [] => 0
  | [a] => a
  | a :: l => if minL l < a then minL l else a
def maxW (a : D) (Q : D → Prop) : Prop := ∃ es ns, a = .lst es ∧ intsD es = some ns ∧ ns ≠ [] ∧ Q (.int (maxL ns))
def minW (a : D) (Q : D → Prop) : Prop := ∃ es ns, a = .lst es ∧ intsD es = some ns ∧ ns ≠ [] ∧ Q (.int (minL ns))
/-- in ascending order -/
def insI (a : Int) : List Int → List Int
  | [] => [a]
  | b :: l => if a ≤ b then a :: b :: l else b :: insI a l
def sortI : List Int → List Int
  | [] => []
  | a :: l => insI a (sortI l)
/-- pairs of ints -/
def prsD : List D → Option (List (Int × Int))
  | [] => some []
  | .tup [.int a, .int b] :: ds => (prsD ds).map ((a, b) :: ·)
  | _ :: _ => none
def prD (p : Int × Int) : D := .tup [.int p.1, .int p.2]
def leP (p q : Int × Int) : Bool := decide (p.1 < q.1) || (decide (p.1 = q.1) && decide (p.2 ≤ q.2))
def insP (a : Int × Int) : List (Int × Int) → List (Int × Int)
  | [] => [a]
  | b :: l => if leP a b = true then a :: b :: l else b :: insP a l
def sortP : List (Int × Int) → List (Int × Int)
  | [] => []
  | a :: l => insP a (sortP l)
/-- each one once -/
def onceL {α : Type} [DecidableEq α] : List α → List α
  | [] => []
  | a :: l => if a ∈ l then onceL l else a :: onceL l
def sortD (es : List D) : Option (List D) := match intsD es with
  | some ns => some ((sortI ns).map D.int)
  | none => (prsD es).map fun ps => (sortP ps).map prD
/-- the different ones, in ascending order -/
def diffD (es : List D) : Option (List D) := match intsD es with
  | some ns => some ((sortI (onceL ns)).map D.int)
  | none => (prsD es).map fun ps => (sortP (onceL ps)).map prD
def sortW (a : D) (Q : D → Prop) : Prop := ∃ es out, a = .lst es ∧ sortD es = some out ∧ Q (.lst out)
/-- tuple(sorted(set(a))), sorted(set(a)) -/
def diffW (tp : Bool) (a : D) (Q : D → Prop) : Prop := ∃ es out, seqD a = some es ∧ es.length < 64 ∧ diffD es = some out ∧ Q (if tp = true then .tup out else .lst out)
def anyW (a : D) (Q : D → Prop) : Prop := ∃ es bs, a = .lst es ∧ blsD es = some bs ∧ Q (.bl (bs.any id))
/-- is True, is False -/
def isBW (b neg : Bool) (d : D) (Q : D → Prop) : Prop := match d with
  | .bl c => Q (.bl (if neg then !decide (c = b) else decide (c = b)))
  | _ => False
def toListW (d : D) (Q : D → Prop) : Prop := match d with
  | .str z => z.length ≤ sizeLine ∧ Q (.lst (z.cps.toList.map fun c => D.str ⟨#[c]⟩))
  | a => ∃ es, seqD a = some es ∧ Q (.lst es)
def rngL (a b : Int) : List D := (List.range (b - a).toNat).map fun (k : Nat) => D.int (a + k)
def lenW (d : D) (Q : D → Prop) : Prop := match d with
  | .lst ds => Q (.int ds.length)
  | .scr ds => Q (.int ds.length)
  | .tup ds => Q (.int ds.length)
  | .str x => x.length ≤ sizeLine ∧ Q (.int x.length)
  | _ => False
def toIntW (d : D) (Q : D → Prop) : Prop := match d with
  | .int i => Q (.int i)
  | .bl b => Q (.int (if b then 1 else 0))
  | _ => False
def inW (neg : Bool) (ds : List D) (Q : D → Prop) : Prop := match ds with
  | [a, .lst es] => (flatD 50 a = true ∧ flatDs 50 es = true) ∧ Q (.bl (if neg then !(es.any fun z => eqD z a) else es.any fun z => eqD z a))
  | [a, .tup es] => (flatD 50 a = true ∧ flatDs 50 es = true) ∧ Q (.bl (if neg then !(es.any fun z => eqD z a) else es.any fun z => eqD z a))
  | [.str x, .str y] => Q (.bl (if neg then !(!(Builtin.Str.occurrences y x 0 y.length 1).isEmpty) else !(Builtin.Str.occurrences y x 0 y.length 1).isEmpty))
  | _ => False
/-- data whose == with an int is told -/
def fkD : D → Bool
  | .non => true
  | .bl _ => true
  | .int _ => true
  | .str _ => true
  | .tup _ => true
  | .lst _ => true
  | .dic _ _ => true
  | _ => false
/-- an int in a list of anything -/
def inMW (neg : Bool) (ds : List D) (Q : D → Prop) : Prop := match ds with
  | [.int i, .lst es] => es.all fkD = true ∧ Q (.bl (if neg = true then !(es.any fun z => eqD z (.int i)) else es.any fun z => eqD z (.int i)))
  | _ => False
def itemW (ds : List D) (Q : D → Prop) : Prop := match ds with
  | [.str z, .int i] => ∃ c, z.length ≤ sizeLine ∧ atI z.cps.toList i = some c ∧ Q (.str ⟨#[c]⟩)
  | [a, .int i] => ∃ es d, seqD a = some es ∧ atI es i = some d ∧ Q d
  | _ => False
def opW : Op → List D → (D → Prop) → Prop
  | .add, ds, Q => addW ds Q
  | .sub, ds, Q => int2 ds fun i j => Q (.int (i - j))
  | .mul, ds, Q => mulW ds Q
  | .fdiv, ds, Q => int2 ds fun i j => (0 < j ∧ j.natAbs.log2 < 9000) ∧ Q (.int (i / j))
  | .mod, ds, Q => int2 ds fun i j => 0 < j ∧ Q (.int (i % j))
  | .fdivN, ds, Q => int2 ds fun i j => (j ≠ 0 ∧ j.natAbs < 1073741824) ∧ Q (.int (i.fdiv j))
  | .modN, ds, Q => int2 ds fun i j => j ≠ 0 ∧ Q (.int (i.fmod j))
  | .pow, ds, Q => int2 ds fun i j => (0 ≤ j ∧ j ≤ 1000000 ∧ i.natAbs < 2 ^ 64) ∧ Q (.int (i ^ j.toNat))
  | .neg, ds, Q => int1 ds fun i => Q (.int (-i))
  | .eq, ds, Q => any2 ds fun a b => eqOk a b = true ∧ Q (.bl (eqD a b))
  | .ne, ds, Q => any2 ds fun a b => eqOk a b = true ∧ Q (.bl (!eqD a b))
  | .eqL, ds, Q => eqLW false ds Q
  | .neL, ds, Q => eqLW true ds Q
  | .inM, ds, Q => inMW false ds Q
  | .ninM, ds, Q => inMW true ds Q
  | .lt, ds, Q => int2 ds fun i j => Q (.bl (decide (i < j)))
  | .le, ds, Q => int2 ds fun i j => Q (.bl (decide (i ≤ j)))
  | .gt, ds, Q => int2 ds fun i j => Q (.bl (decide (j < i)))
  | .ge, ds, Q => int2 ds fun i j => Q (.bl (decide (j ≤ i)))
  | .isN, ds, Q => any1 ds fun a => Q (.bl (isNonD a))
  | .isNotN, ds, Q => any1 ds fun a => Q (.bl (!isNonD a))
  | .in_, ds, Q => inW false ds Q
  | .notIn, ds, Q => inW true ds Q
  | .len, ds, Q => any1 ds fun a => lenW a Q
  | .abs, ds, Q => int1 ds fun i => Q (.int (if i < 0 then -i else i))
  | .max2, ds, Q => int2 ds fun i j => Q (.int (if j > i then j else i))
  | .min2, ds, Q => int2 ds fun i j => Q (.int (if j < i then j else i))
  | .toInt, ds, Q => any1 ds fun a => toIntW a Q
  | .toStr, ds, Q => int1 ds fun i => i.natAbs.log2 < 1920 ∧ Q (.str (toString i))
  | .repr, ds, Q => any1 ds fun a => ∃ x, reprD a = some x ∧ Q (.str x)
  | .toList, ds, Q => any1 ds fun a => toListW a Q
  | .toTuple, ds, Q => any1 ds fun a => ∃ es, seqD a = some es ∧ Q (.tup es)
  | .item, ds, Q => itemW ds Q
  | .isi ts _, ds, Q => any1 ds fun a => tyOk a = true ∧ Q (.bl (ts.any (tyD a)))
  | .sl lo hi, ds, Q => slW lo hi ds Q
  | .rev, ds, Q => any1 ds fun a => revW a Q
  | .join, ds, Q => joinW ds Q
  | .split, ds, Q => str2 ds fun a b => ((b.length == 0) = false ∧ a.length + 2 ≤ sizeLine) ∧ Q (.lst ((Txt.split a b).map D.str))
  | .rmpre, ds, Q => str2 ds fun a b => a.length ≤ sizeLine ∧ Q (.str (Txt.removeprefix a b))
  | .starts, ds, Q => str2 ds fun a b => Q (.bl (Txt.startswith a b))
  | .index, ds, Q => str2 ds fun a b => ∃ k, Txt.index0 a b = some k ∧ Q (.int (k : Nat))
  | .find, ds, Q => str2 ds fun a b => Q (.int (Txt.find a b))
  | .fld x, ds, Q => any1 ds fun a => fldW x a Q
  | .all, ds, Q => any1 ds fun a => allW a Q
  | .any, ds, Q => any1 ds fun a => anyW a Q
  | .sum, ds, Q => any1 ds fun a => sumW a Q
  | .maxL, ds, Q => any1 ds fun a => maxW a Q
  | .minL, ds, Q => any1 ds fun a => minW a Q
  | .isT, ds, Q => any1 ds fun a => isBW true false a Q
  | .isF, ds, Q => any1 ds fun a => isBW false false a Q
  | .isNT, ds, Q => any1 ds fun a => isBW true true a Q
  | .isNF, ds, Q => any1 ds fun a => isBW false true a Q
  | .sorted, ds, Q => any1 ds fun a => sortW a Q
  | .diff tp, ds, Q => any1 ds fun a => diffW tp a Q
  | .rng1, ds, Q => int1 ds fun n => (-(2 ^ 22) < n ∧ n < 2 ^ 22) ∧ Q (.lst (rngL 0 n))
  | .rng2, ds, Q => int2 ds fun a b => (-(2 ^ 22) < a ∧ a < 2 ^ 22 ∧ -(2 ^ 22) < b ∧ b < 2 ^ 22) ∧ Q (.lst (rngL a b))

/-- what is walked -/
def itD : ItK → List D → Option (List D)
  | .seq, [.lst ds] => some ds
  | .seq, [.tup ds] => some ds
  | .seq, [.scr ds] => some ds
  | .zip2, [.lst a, .lst b] => some (List.zipWith (fun x y => D.tup [x, y]) a b)
  | .zip2, [.lst a, .tup b] => some (List.zipWith (fun x y => D.tup [x, y]) a b)
  | .zip2, [.tup a, .lst b] => some (List.zipWith (fun x y => D.tup [x, y]) a b)
  | .zip2, [.tup a, .tup b] => some (List.zipWith (fun x y => D.tup [x, y]) a b)
  | .range1, [.int n] => if -(2 ^ 24) < n ∧ n < 2 ^ 24 then some ((List.range n.toNat).map fun (k : Nat) => D.int k) else none
  | .range2, [.int a, .int b] => if -(2 ^ 24) < a ∧ a < 2 ^ 24 ∧ -(2 ^ 24) < b ∧ b < 2 ^ 24 then some ((List.range (b - a).toNat).map fun (k : Nat) => D.int (a + k)) else none
  | _, _ => none

mutual
/-- a target takes a value -/
def tgS : Tg → D → List Sl → Option (List Sl)
  | .nm i, d, e => some (e.set i (.shr d))
  | .tp ts, .tup ds, e => tgSs ts ds e
  | .tp ts, .lst ds, e => tgSs ts ds e
  | _, _, _ => none
def tgSs : List Tg → List D → List Sl → Option (List Sl)
  | [], [], e => some e
  | t :: ts, d :: ds, e => match tgS t d e with
    | some e1 => tgSs ts ds e1
    | none => none
  | _, _, _ => none
end
mutual
def tgI : Tg → List Nat
  | .nm i => [i]
  | .tp ts => tgIs ts
def tgIs : List Tg → List Nat
  | [] => []
  | t :: ts => tgI t ++ tgIs ts
end

/-- the slots that a comprehension's own names hide -/
def hide (e : List Sl) : List Nat → List Sl
  | [] => e
  | i :: r => (hide e r).set i .un
/-- .. and behind it -/
def unhide (e0 : List Sl) (e : List Sl) : List Nat → List Sl
  | [] => e
  | i :: r => (unhide e0 e r).set i (match e0[i]? with | some (.shr d) => .shr d | _ => .un)

/-- what is walked has not changed -/
def same (ds : List D) (h : List CO) (st : Stt) : Prop := ds.map (view st.h) = ds.map (view h)
/-- the turns of a comprehension: each turn gives no item or one -/
def lcLoop (chk : Stt → Prop) (turn : D → Stt → (List D → Stt → Prop) → Prop) : List D → List D → Stt → (List D → Stt → Prop) → Prop
  | [], acc, st, Q => chk st ∧ Q acc st
  | x :: xs, acc, st, Q => chk st ∧ turn x st fun r st1 => lcLoop chk turn xs (acc ++ r) st1 Q

/-- the arguments in the parameters' order: the i-th one written, or a default -/
def arr (ar : List (Sum Nat D)) (ds : List D) : List D := ar.map fun a => match a with
  | .inl i => ds.getD i .non
  | .inr d => d
def popAt (ds : List D) (i : Int) : Option (D × List D) := (ixN ds.length i).bind fun j => (ds[j]?).map fun d => (d, ds.eraseIdx j)

/-- {x} in an f-string -/
def fmtD : D → Option Str
  | .str y => if y.length ≤ sizeLine then some y else none
  | .int i => if i.natAbs.log2 < 1920 then some (toString i) else none
  | _ => none
def isObj (c : Nat) : D → Bool
  | .obj k _ => k == c
  | _ => false
/-- is the object the second one? -/
def isIn : MK → Bool
  | .in_ => true
  | .notIn => true
  | _ => false
/-- no exception passes a property -/
def isProp : MK → Bool
  | .prop => true
  | _ => false
/-- are two objects of the class compared? -/
def isEqM : MK → Bool
  | .eq => true
  | .ne => true
  | _ => false
/-- what an object may be compared with -/
def eqR (c : Nat) : D → Bool
  | .obj k _ => k == c
  | d => tyOk d
/-- what is made of the method's answer -/
def methQ : MK → D → (D → Prop) → Prop
  | .dot, d, Q => Q d
  | .prop, d, Q => Q d
  | .len, d, Q => ∃ n, d = .int n ∧ (0 ≤ n ∧ n < 2 ^ 62) ∧ Q d
  | .in_, d, Q => ∃ b, d = .bl b ∧ Q (.bl b)
  | .notIn, d, Q => ∃ b, d = .bl b ∧ Q (.bl (!b))
  | .neg, d, Q => Q d
  | .eq, d, Q => ∃ b, d = .bl b ∧ Q (.bl b)
  | .ne, d, Q => ∃ b, d = .bl b ∧ Q (.bl (!b))
  | .str, d, Q => ∃ x, d = .str x ∧ Q d
mutual
def wE (C : Calls) : Ex → Stt → PD → PX → Prop
  | .con d, st, Q, _ => Q d st
  | .var i, st, Q, _ => match st.e[i]? with
    | some (.shr d) => Q d st
    | some (.own d) => Q d ⟨st.e.set i (.shr d), st.h⟩
    | _ => False
  | .mov i, st, Q, _ => match st.e[i]? with
    | some (.own d) => Q d ⟨st.e.set i .un, st.h⟩
    | some (.shr d) => scalD d = true ∧ Q d st
    | _ => False
  | .op o es, st, Q, X => wA C es st (fun ds st1 => opW o (ds.map (view st1.h)) fun d => Q d st1) X
  | .tup es, st, Q, X => wL C es st (fun ds st1 => ds.length ≤ 1000 ∧ Q (.tup ds) st1) X
  | .lst es, st, Q, X => wL C es st (fun ds st1 => ds.length ≤ 1000 ∧ Q (.lst ds) st1) X
  | .disp tp fl es, st, Q, X => wD C fl es st (fun ds st1 => ds.length ≤ sizeLine ∧ Q (if tp = true then .tup ds else .lst ds) st1) X
  | .fst es, st, Q, X => wF C es Str.empty st (fun x st1 => Q (.str x) st1) X
  | .andV a b, st, Q, X => wE C a st (fun d st1 => ∃ k, truD (view st1.h d) = some k ∧ if k = true then wE C b st1 Q X else Q d st1) X
  | .orV a b, st, Q, X => wE C a st (fun d st1 => ∃ k, truD (view st1.h d) = some k ∧ if k = true then Q d st1 else wE C b st1 Q X) X
  | .notV a, st, Q, X => wE C a st (fun d st1 => ∃ k, truD (view st1.h d) = some k ∧ Q (.bl (!k)) st1) X
  | .ite t a b, st, Q, X => wT C t st (fun k st1 => if k = true then wE C a st1 Q X else wE C b st1 Q X) X
  | .chn p q a b c, st, Q, X => wE C a st (fun x st1 => wE C b st1 (fun y st2 => opW p [view st2.h x, view st2.h y] fun r => ∃ k, r = .bl k ∧
      if k = true then wE C c st2 (fun z st3 => opW q [view st3.h y, view st3.h z] fun r => Q r st3) X else Q (.bl false) st2) X) X
  | .call f es ar, st, Q, X => wL C es st (fun ds st1 => C f (arr ar ds) st1.h (fun d h => Q d ⟨st1.e, h⟩) (fun c fs h => X c fs ⟨st1.e, h⟩)) X
  | .dct [] [], st, Q, _ => Q (.dic [] []) st
  | .dct [k] [v], st, Q, X => wE C k st (fun a st1 => wE C v st1 (fun b st2 => keyD a = true ∧ Q (.dic [a] [b]) st2) X) X
  | .cel a, st, Q, X => wE C a st (fun d st1 => match d with
    | .lst ds => Q (.cell st1.h.length) ⟨st1.e, st1.h ++ [.lst ds]⟩
    | .dic ks vs => Q (.cell st1.h.length) ⟨st1.e, st1.h ++ [.dic ks vs]⟩
    | d => scalD d = true ∧ Q d st1) X
  | .make c fz f es ar, st, Q, X => wL C es st (fun ds st1 => C f (arr ar (.cell st1.h.length :: ds)) (st1.h ++ [.obj c []])
      (fun d h => d = .non ∧ if fz = true then ∃ fs, h = st1.h ++ [.obj c fs] ∧ cellsLts st1.h.length fs = true ∧ Q (.obj c fs) st1 else Q (.cell st1.h.length) ⟨st1.e, h⟩)
      (fun k fs h => if fz = true then (∃ gs, h = st1.h ++ [.obj c gs]) ∧ cellsLts st1.h.length fs = true ∧ X k fs st1 else X k fs ⟨st1.e, h⟩)) X
  | .meth k c f (r :: es) ar, st, Q, X => wE C r st (fun d st1 => (isIn k = false → isObj c (view st1.h d) = true) ∧ wL C es st1 (fun ds st2 => (isIn k = true → isObj c (view st2.h (ds.getD 0 .non)) = true) ∧ (isEqM k = true → isObj c (view st2.h d) = true ∧ eqR c (view st2.h (ds.getD 0 .non)) = true) ∧
      C f (arr ar (d :: ds)) st2.h (fun d h => methQ k d fun r => Q r ⟨st2.e, h⟩) (fun c fs h => isProp k = false ∧ X c fs ⟨st2.e, h⟩)) X) X
  | .xfl i x, st, Q, _ => match st.e[i]? with
    | some (.exc c fs) => ∃ k d, fldIx c x = some k ∧ fs[k]? = some d ∧ Q d st
    | _ => False
  | .xis i k, st, Q, _ => match st.e[i]? with
    | some (.exc c _) => Q (.bl (excSub c k)) st
    | _ => False
  | .pop i a, st, Q, X => (∃ ds, st.e[i]? = some (.own (.lst ds))) ∧ wE C a st (fun d st1 => match d, st1.e[i]? with
    | .int k, some (.own (.lst ds)) => ds.length ≤ sizeLine ∧ ∃ x r, popAt ds k = some (x, r) ∧ Q x ⟨st1.e.set i (.own (.lst r)), st1.h⟩
    | _, _ => False) X
  | .lc k src tg ifs elt own, st, Q, X => wL C src st (fun ds st1 => ∃ items, itD k (ds.map (view st1.h)) = some items ∧ items.length ≤ sizeLine ∧
      lcLoop (same ds st1.h) (fun x st2 R => ∃ e', tgS tg x st2.e = some e' ∧ wTs C ifs ⟨e', st2.h⟩ (fun b st3 => if b = true then wE C elt st3 (fun y st4 => R [y] ⟨hide st4.e own, st4.h⟩) (fun _ _ _ => False) else R [] ⟨hide st3.e own, st3.h⟩) (fun _ _ _ => False))
        items [] ⟨hide st1.e own, st1.h⟩ fun out st5 => Q (.lst out) ⟨unhide st1.e st5.e own, st5.h⟩) X
  | _, _, _, _ => False
/-- operands -/
def wA (C : Calls) : List Ex → Stt → (List D → Stt → Prop) → PX → Prop
  | [], st, Q, _ => Q [] st
  | .brw i :: es, st, Q, X => (rdS st.e i).isSome = true ∧ wA C es st (fun ds st2 => ∃ d, rdS st2.e i = some d ∧ Q (d :: ds) st2) X
  | e :: es, st, Q, X => wE C e st (fun d st1 => wA C es st1 (fun ds st2 => Q (d :: ds) st2) X) X
/-- values to be kept -/
def wL (C : Calls) : List Ex → Stt → (List D → Stt → Prop) → PX → Prop
  | [], st, Q, _ => Q [] st
  | e :: es, st, Q, X => wE C e st (fun d st1 => wL C es st1 (fun ds st2 => Q (d :: ds) st2) X) X
/-- a display with stars -/
def wD (C : Calls) : List Bool → List Ex → Stt → (List D → Stt → Prop) → PX → Prop
  | [], [], st, Q, _ => Q [] st
  | b :: fl, e :: es, st, Q, X => wE C e st (fun d st1 => if b = true then ∃ xs, seqD (view st1.h d) = some xs ∧ wD C fl es st1 (fun ds st2 => Q (xs ++ ds) st2) X
      else wD C fl es st1 (fun ds st2 => Q (d :: ds) st2) X) X
  | _, _, _, _, _ => False
/-- the parts of an f-string -/
def wF (C : Calls) : List Ex → Str → Stt → (Str → Stt → Prop) → PX → Prop
  | [], acc, st, Q, _ => Q acc st
  | e :: es, acc, st, Q, X => wE C e st (fun d st1 => ∃ y, fmtD d = some y ∧ (acc ++ y).length ≤ sizeLine ∧ wF C es (acc ++ y) st1 Q X) X
/-- tests -/
def wT (C : Calls) : Ex → Stt → (Bool → Stt → Prop) → PX → Prop
  | .tAnd a b, st, Q, X => wT C a st (fun k st1 => if k = true then wT C b st1 Q X else Q false st1) X
  | .tOr a b, st, Q, X => wT C a st (fun k st1 => if k = true then Q true st1 else wT C b st1 Q X) X
  | .tNot a, st, Q, X => wT C a st (fun k st1 => Q (!k) st1) X
  | .tru a, st, Q, X => wE C a st (fun d st1 => ∃ k, truD (view st1.h d) = some k ∧ Q k st1) X
  | .tb a, st, Q, X => wE C a st (fun d st1 => ∃ k, d = .bl k ∧ Q k st1) X
  | _, _, _, _ => False
def wTs (C : Calls) : List Ex → Stt → (Bool → Stt → Prop) → PX → Prop
  | [], st, Q, _ => Q true st
  | t :: ts, st, Q, X => wT C t st (fun k st1 => if k = true then wTs C ts st1 Q X else Q false st1) X
end

/-- the list that slot i leads to: its own, or a cell's -/
def lstAt (st : Stt) (i : Nat) : Option (List D) := match st.e[i]? with
  | some (.own (.lst ds)) => some ds
  | some (.shr (.cell l)) => match st.h[l]? with
    | some (.lst ds) => some ds
    | _ => none
  | _ => none
def putAt (st : Stt) (i : Nat) (ds : List D) : Stt := match st.e[i]? with
  | some (.own _) => ⟨st.e.set i (.own (.lst ds)), st.h⟩
  | some (.shr (.cell l)) => ⟨st.e, st.h.set l (.lst ds)⟩
  | _ => st
/-- what is wanted behind a statement -/
structure EndD where
  nx : Stt → Prop
  rt : D → Stt → Prop
  bk : Stt → Prop
  ct : Stt → Prop
  ex : PX

/-- a container is held alone -/
def ownS (d : D) : Sl := if scalD d = true then .shr d else .own d
/-- no slot holds a caught exception -/
def noX (e : List Sl) : Bool := e.all fun x => match x with
  | .exc _ _ => false
  | _ => true
def setSs : List Nat → List D → List Sl → Option (List Sl)
  | [], [], e => some e
  | i :: is, d :: ds, e => setSs is ds (e.set i (.shr d))
  | _, _, _ => none
/-- a field is set: anew, or the next one -/
def putFl (c : Nat) (x : Str) (d : D) (fs : List D) : Option (List D) := match fldIx c x with
  | some k => if k < fs.length then some (fs.set k d) else if k = fs.length then some (fs ++ [d]) else none
  | none => none
def objAt (st : Stt) (i : Nat) : Option (Nat × Nat × List D) := match st.e[i]? with
  | some (.shr (.cell l)) => (match st.h[l]? with
    | some (.obj c fs) => some (l, c, fs)
    | _ => none)
  | _ => none
/-- the turns of a for -/
def forLoop (chk : Stt → Prop) (turn : D → Stt → (Stt → Prop) → Prop) : List D → Stt → (Stt → Prop) → Prop
  | [], st, Q => chk st ∧ Q st
  | x :: xs, st, Q => chk st ∧ turn x st fun st1 => forLoop chk turn xs st1 Q

mutual
def wS (C : Calls) : Sm → Stt → EndD → Prop
  | .pass, st, E => E.nx st
  | .brk, st, E => E.bk st
  | .cnt, st, E => E.ct st
  | .ret a, st, E => wE C a st E.rt E.ex
  | .exp a, st, E => wE C a st (fun _ st1 => E.nx st1) E.ex
  | .asg tg a, st, E => wE C a st (fun d st1 => ∃ e', tgS tg d st1.e = some e' ∧ E.nx ⟨e', st1.h⟩) E.ex
  | .asgO i a, st, E => wE C a st (fun d st1 => E.nx ⟨st1.e.set i (ownS d), st1.h⟩) E.ex
  | .setI i k a, st, E => wE C a st (fun d st1 => (rdS st1.e i).isSome = true ∧ wE C k st1 (fun z st2 => match z with
    | .int j => ∃ ds m, lstAt st2 i = some ds ∧ ixN ds.length j = some m ∧ E.nx (putAt st2 i (ds.set m d))
    | _ => False) E.ex) E.ex
  | .app i a, st, E => (lstAt st i).isSome = true ∧ wE C a st (fun d st1 => ∃ ds, lstAt st1 i = some ds ∧ ds.length < sizeLine ∧ E.nx (putAt st1 i (ds ++ [d]))) E.ex
  | .ite t a b, st, E => wT C t st (fun k st1 => if k = true then wSs C a st1 E else wSs C b st1 E) E.ex
  | .for_ k src tg body, st, E => wL C src st (fun ds st1 => ∃ items, itD k (ds.map (view st1.h)) = some items ∧ items.length ≤ sizeLine ∧
      forLoop (same ds st1.h) (fun x st2 R => ∃ e', tgS tg x st2.e = some e' ∧ wSs C body ⟨e', st2.h⟩ { nx := R, rt := E.rt, bk := E.nx, ct := R, ex := E.ex }) items st1 E.nx) E.ex
  | .whl t body, st, E => ∃ I : Nat → Stt → Prop, (∃ m, I m st) ∧ ∀ m st, I m st → wT C t st (fun k st1 => if k = true then
      wSs C body st1 { nx := fun st2 => ∃ m', m' < m ∧ I m' st2, rt := E.rt, bk := E.nx, ct := fun st2 => ∃ m', m' < m ∧ I m' st2, ex := E.ex } else E.nx st1) E.ex
  | .rais c es, st, E => wL C es st (fun ds st1 => ds.length = (fldsOf c).length ∧ E.ex c ds st1) E.ex
  | .tryA body cs suites, st, E => wSs C body st { nx := E.nx, rt := E.rt, bk := E.bk, ct := E.ct, ex := fun c fs st1 => wHs C cs suites c fs st1 E }
  | .setF i x a, st, E => wE C a st (fun d st1 => ∃ l c fs fs', objAt st1 i = some (l, c, fs) ∧ putFl c x d fs = some fs' ∧ E.nx ⟨st1.e, st1.h.set l (.obj c fs')⟩) E.ex
  | .par is es, st, E => wL C es st (fun ds st1 => ∃ e', setSs is ds st1.e = some e' ∧ E.nx ⟨e', st1.h⟩) E.ex
/-- the handlers, one behind the other -/
def wHs (C : Calls) : List (Nat × Nat) → List (List Sm) → Nat → List D → Stt → EndD → Prop
  | (k, i) :: cs, suite :: suites, c, fs, st, E => if excSub c k = true then wSs C suite ⟨st.e.set i (.exc c fs), st.h⟩
      { nx := fun st2 => noX (st2.e.set i .un) = true ∧ E.nx ⟨st2.e.set i .un, st2.h⟩, rt := fun d st2 => noX (st2.e.set i .un) = true ∧ E.rt d ⟨st2.e.set i .un, st2.h⟩,
        bk := fun st2 => noX (st2.e.set i .un) = true ∧ E.bk ⟨st2.e.set i .un, st2.h⟩, ct := fun st2 => noX (st2.e.set i .un) = true ∧ E.ct ⟨st2.e.set i .un, st2.h⟩, ex := fun _ _ _ => False } else wHs C cs suites c fs st E
  | _, _, c, fs, st, E => E.ex c fs st
def wSs (C : Calls) : List Sm → Stt → EndD → Prop
  | [], st, E => E.nx st
  | s :: ss, st, E => wS C s st { nx := fun st1 => wSs C ss st1 E, rt := E.rt, bk := E.bk, ct := E.ct, ex := E.ex }
end

/-- a function: its parameters' number, its slots' number, its body -/
structure Fn where
  np : Nat
  ns : Nat
  body : List Sm
  fr : Bool

def startE (f : Fn) (ds : List D) : List Sl := ds.map Sl.shr ++ List.replicate (f.ns - ds.length) Sl.un
/-- the functions of a program, by at most n calls one in another -/
def CC (P : Nat → Option Fn) : Nat → Calls
  | 0, _, _, _, _, _ => False
  | n + 1, f, ds, h, Q, X => match P f with
    | some fn => ds.length = fn.np ∧ wSs (CC P n) fn.body ⟨startE fn ds, h⟩ { nx := fun st => Q .non st.h, rt := fun d st => Q d st.h, bk := fun _ => False, ct := fun _ => False, ex := fun c fs st => X c fs st.h }
    | none => False
end Mp
namespace Mp
open PySem PySem.Spec PyProof.Rows L2

/-- the written part; the caught exception, where one is handled -/
structure Kc where
  K : PySem.W.Frag
  xo : Option (Addr × Obj)
instance : CoeOut Kc PySem.W.Frag := ⟨Kc.K⟩
abbrev kz (X : Cx) : Kc := ⟨X.K, if X.calm then none else X.pn.head?⟩
theorem kz_calm {X : Cx} (h : X.calm = true) : kz X = ⟨X.K, none⟩ := by unfold kz; rw [h]; rfl
/-- the class number c -/
abbrev CL (K : Kc) (c : Nat) : Addr := He.ga K.K (clsN c)
/-- where the mutable objects stand; W: addresses that one slot or one cell alone holds; M: those of them that may change -/
structure Gh where
  io : Nat → Addr
  W : Addr → Prop
  M : Addr → Prop
def Gh.add (g : Gh) (p : Addr) : Gh := ⟨g.io, fun a => a = p ∨ g.W a, fun a => a = p ∨ g.M a⟩
def Gh.del (g : Gh) (p : Addr) : Gh := ⟨g.io, fun a => a ≠ p ∧ g.W a, fun a => a ≠ p ∧ g.M a⟩

/-- a tuple of the module's own -/
def KTs (K : Kc) (a : Addr) (xs : List V) : Prop :=
  ∃ (o : Obj) (its : Array Value) (n : Nat), K.K.lookup a = some o ∧ o.cls = .type "tuple" ∧ o.data = .seq its n ∧ its.size ≤ sizeLine ∧ Vals xs its.toList
def KLs (K : Kc) (a : Addr) (xs : List V) : Prop :=
  ∃ (o : Obj) (its : Array Value) (n : Nat), K.K.lookup a = some o ∧ o.cls = .type "list" ∧ o.dict = none ∧ o.data = .seq its n ∧ its.size ≤ sizeLine ∧ Vals xs its.toList
/-- the script -/
def ScR (K : Kc) (g : Gh) (H : Hp) (a : Addr) (xs : List V) : Prop := (Rd H a (.lst xs) ∧ ¬ g.W a) ∨ KLs K a xs
def LsR (g : Gh) (H : Hp) (a : Addr) (xs : List V) : Prop := H a = some (.lst xs) ∧ ¬ g.W a
def TpR (K : Kc) (g : Gh) (H : Hp) (a : Addr) (xs : List V) : Prop := (Rd H a (.tup xs) ∧ ¬ g.W a) ∨ KTs K a xs
def DcR (H : Hp) (a : Addr) (kk ws : List V) : Prop := ∃ kvs : List (Key × V), H a = some (.dK kvs) ∧ kk = kvs.map (fun p => kV p.1) ∧ ws = kvs.map (·.2)

/-- the module has the class c -/
def isKnown (K : PySem.W.Frag) (c : Nat) : Bool := decide (c < clsTab.length) && He.eqO (PySem.W.nsIn K mainGlobals (clsN c)) (some (some (.ref (He.ga K (clsN c)))))
/-- the module has the error class c -/
def isKnownX (K : PySem.W.Frag) (c : Nat) : Bool := decide (100 ≤ c) && decide (c < 100 + excTab.length) && He.eqO (PySem.W.nsIn K mainGlobals (clsN c)) (some (some (.ref (He.ga K (clsN c)))))
/-- an instance of the class c with the fields vs -/
def ObR (K : Kc) (H : Hp) (a : Addr) (c : Nat) (vs : List V) : Prop := isKnown K.K c = true ∧ vs.length ≤ (fldsOf c).length ∧ ∃ dx, H a = some (.ins (CL K c) dx ((fldsOf c).zip vs))
mutual
/-- v, over H, is the data d -/
def Rep (K : Kc) (g : Gh) (n : Nat) (H : Hp) : D → V → Prop
  | .non, v => v = .non
  | .bl b, v => v = .bl b
  | .int i, v => v = .int i
  | .str x, v => v = .str x
  | .tup ds, v => ∃ a vs, v = .ref a ∧ TpR K g H a vs ∧ Reps K g n H ds vs
  | .lst ds, v => ∃ a vs, v = .ref a ∧ LsR g H a vs ∧ Reps K g n H ds vs
  | .dic ks es, v => ∃ a kk ws, v = .ref a ∧ (DcR H a kk ws ∧ ¬ g.W a) ∧ Reps K g n H ks kk ∧ Reps K g n H es ws
  | .obj c ds, v => ∃ a vs, v = .ref a ∧ (ObR K H a c vs ∧ ¬ g.W a) ∧ Reps K g n H ds vs
  | .exc _ _, _ => False
  | .cell l, v => l < n ∧ v = .ref (g.io l)
  | .scr ds, v => ∃ a vs, v = .ref a ∧ ScR K g H a vs ∧ Reps K g n H ds vs
def Reps (K : Kc) (g : Gh) (n : Nat) (H : Hp) : List D → List V → Prop
  | [], vs => vs = []
  | d :: ds, vs => ∃ v r, vs = v :: r ∧ Rep K g n H d v ∧ Reps K g n H ds r
end

/-- the step from one state to a later one: what may not change has not -/
structure Ext (g : Gh) (n : Nat) (H : Hp) (g' : Gh) (n' : Nat) (H' : Hp) : Prop where
  keep : ∀ a o, H a = some o → ¬ g.M a → H' a = some o
  stay : ∀ a o, H a = some o → ¬ g.M a → (g'.W a ↔ g.W a)
  stayM : ∀ a o, H a = some o → ¬ g.M a → ¬ g'.M a
  io : ∀ l, l < n → g'.io l = g.io l
  le : n ≤ n'
theorem Ext.refl (g : Gh) (n : Nat) (H : Hp) : Ext g n H g n H := ⟨fun _ _ h _ => h, fun _ _ _ _ => Iff.rfl, fun _ _ _ h => h, fun _ _ => rfl, Nat.le_refl _⟩
theorem Ext.trans {g g1 g2 : Gh} {n n1 n2 : Nat} {H H1 H2 : Hp} (a : Ext g n H g1 n1 H1) (b : Ext g1 n1 H1 g2 n2 H2) : Ext g n H g2 n2 H2 where
  keep := fun c o h m => b.keep c o (a.keep c o h m) (a.stayM c o h m)
  stay := fun c o h m => (b.stay c o (a.keep c o h m) (a.stayM c o h m)).trans (a.stay c o h m)
  stayM := fun c o h m => b.stayM c o (a.keep c o h m) (a.stayM c o h m)
  io := fun l h => (b.io l (Nat.lt_of_lt_of_le h a.le)).trans (a.io l h)
  le := Nat.le_trans a.le b.le

/-- what Rep leans on -/
structure Kp (g : Gh) (n : Nat) (H : Hp) (g' : Gh) (n' : Nat) (H' : Hp) : Prop where
  keep : ∀ a o, H a = some o → ¬ g.W a → H' a = some o ∧ ¬ g'.W a
  io : ∀ l, l < n → g'.io l = g.io l
  le : n ≤ n'
theorem Ext.kp {g g' : Gh} {n n' : Nat} {H H' : Hp} (e : Ext g n H g' n' H') (mw : ∀ a, g.M a → g.W a) : Kp g n H g' n' H' :=
  ⟨fun a o h w => ⟨e.keep a o h fun m => w (mw a m), fun w' => w ((e.stay a o h fun m => w (mw a m)).mp w')⟩, e.io, e.le⟩

section
variable {K : Kc} {g g' : Gh} {n n' : Nat} {H H' : Hp}
theorem Kp.rd (k : Kp g n H g' n' H') {a : Addr} {u : HO} (h : Rd H a u ∧ ¬ g.W a) : Rd H' a u ∧ ¬ g'.W a := by
  obtain ⟨h | ⟨o, h⟩, w⟩ := h
  · exact ⟨.inl (k.keep a _ h w).1, (k.keep a _ h w).2⟩
  · exact ⟨.inr ⟨o, (k.keep a _ h w).1⟩, (k.keep a _ h w).2⟩
theorem Kp.ls (k : Kp g n H g' n' H') {a : Addr} {vs : List V} (h : LsR g H a vs) : LsR g' H' a vs := k.keep a _ h.1 h.2
theorem Kp.tp (k : Kp g n H g' n' H') {a : Addr} {vs : List V} (h : TpR K g H a vs) : TpR K g' H' a vs := h.imp k.rd id
mutual
theorem Rep.kp (k : Kp g n H g' n' H') : ∀ {d : D} {v : V}, Rep K g n H d v → Rep K g' n' H' d v
  | .non, _, h => h
  | .bl _, _, h => h
  | .int _, _, h => h
  | .str _, _, h => h
  | .tup _, _, ⟨a, vs, e, h, r⟩ => ⟨a, vs, e, k.tp h, Reps.kp k r⟩
  | .lst _, _, ⟨a, vs, e, h, r⟩ => ⟨a, vs, e, k.ls h, Reps.kp k r⟩
  | .dic _ _, _, ⟨a, kk, ws, e, ⟨⟨kvs, h, e1, e2⟩, w⟩, r1, r2⟩ => ⟨a, kk, ws, e, ⟨⟨kvs, (k.keep a _ h w).1, e1, e2⟩, (k.keep a _ h w).2⟩, Reps.kp k r1, Reps.kp k r2⟩
  | .obj _ _, _, ⟨a, vs, e, ⟨⟨hc, hl, dx, h⟩, w⟩, r⟩ => ⟨a, vs, e, ⟨⟨hc, hl, dx, (k.keep a _ h w).1⟩, (k.keep a _ h w).2⟩, Reps.kp k r⟩
  | .cell l, _, ⟨h, e⟩ => ⟨Nat.lt_of_lt_of_le h k.le, by rw [k.io l h]; exact e⟩
  | .scr _, _, ⟨a, vs, e, h, r⟩ => ⟨a, vs, e, h.imp k.rd id, Reps.kp k r⟩
theorem Reps.kp (k : Kp g n H g' n' H') : ∀ {ds : List D} {vs : List V}, Reps K g n H ds vs → Reps K g' n' H' ds vs
  | [], _, h => h
  | _ :: _, _, ⟨v, r, e, h, t⟩ => ⟨v, r, e, Rep.kp k h, Reps.kp k t⟩
end
theorem Reps.length : ∀ {ds : List D} {vs : List V}, Reps K g n H ds vs → vs.length = ds.length
  | [], _, h => by cases h; rfl
  | _ :: _, _, ⟨v, r, e, _, t⟩ => by
    subst e
    exact congrArg Nat.succ (Reps.length t)
theorem Reps.get : ∀ {ds : List D} {vs : List V} {i : Nat} {d : D}, Reps K g n H ds vs → ds[i]? = some d → ∃ v, vs[i]? = some v ∧ Rep K g n H d v
  | [], _, _, _, _, e => by simp at e
  | _ :: _, _, 0, _, ⟨v, r, e, h, _⟩, e2 => by
    subst e
    simp at e2
    subst e2
    exact ⟨v, rfl, h⟩
  | _ :: ds, _, i + 1, d, ⟨v, r, e, _, t⟩, e2 => by
    subst e
    have e3 : ds[i]? = some d := by simpa using e2
    obtain ⟨u, h1, h2⟩ := Reps.get t e3
    exact ⟨u, by simpa using h1, h2⟩
theorem Reps.append : ∀ {ds es : List D} {vs ws : List V}, Reps K g n H ds vs → Reps K g n H es ws → Reps K g n H (ds ++ es) (vs ++ ws)
  | [], _, _, _, h, t => by cases h; exact t
  | _ :: _, _, _, _, ⟨v, r, e, h, q⟩, t => by
    subst e
    exact ⟨v, r ++ _, rfl, h, Reps.append q t⟩
theorem Reps.set : ∀ {ds : List D} {vs : List V} {d : D} {v : V} (i : Nat), Reps K g n H ds vs → Rep K g n H d v → Reps K g n H (ds.set i d) (vs.set i v)
  | [], _, _, _, _, h, _ => by cases h; rfl
  | _ :: _, _, _, _, 0, ⟨v, r, e, _, q⟩, t => by
    subst e
    exact ⟨_, r, rfl, t, q⟩
  | _ :: _, _, _, _, i + 1, ⟨v, r, e, h, q⟩, t => by
    subst e
    exact ⟨v, _, rfl, h, Reps.set i q t⟩
theorem Reps.erase : ∀ {ds : List D} {vs : List V} (i : Nat), Reps K g n H ds vs → Reps K g n H (ds.eraseIdx i) (vs.eraseIdx i)
  | [], _, _, h => by cases h; rfl
  | _ :: _, _, 0, ⟨v, r, e, _, q⟩ => by
    subst e
    exact q
  | _ :: _, _, i + 1, ⟨v, r, e, h, q⟩ => by
    subst e
    exact ⟨v, _, rfl, h, Reps.erase i q⟩
theorem ScR.sq {a : Addr} {vs : List V} (h : ScR K g H a vs) : SqL K H a vs := h.imp (·.1) id
theorem TpR.sq {a : Addr} {vs : List V} (h : TpR K g H a vs) : SqT K H a vs := h.imp (·.1) id
end

/-- the object at a, held by one slot alone, is d -/
def OwR (K : Kc) (g : Gh) (n : Nat) (H : Hp) (a : Addr) : D → Prop
  | .lst ds => ∃ vs, H a = some (.lst vs) ∧ Reps K g n H ds vs
  | .dic ks es => ∃ kk ws, DcR H a kk ws ∧ Reps K g n H ks kk ∧ Reps K g n H es ws
  | _ => False
def SlR (K : Kc) (g : Gh) (n : Nat) (H : Hp) : Sl → Option V → Prop
  | .un, _ => True
  | .exc c ds, ov => ∃ a oe dd vs, K.xo = some (a, oe) ∧ ov = some (.ref a) ∧ oe.cls = .ref (CL K c) ∧ oe.dict = some dd ∧ (∃ fv, oe.data = .fields fv) ∧ isKnownX K.K c = true ∧ vs.length = (fldsOf c).length ∧ (H dd = some (.xd ((fldsOf c).zip vs)) ∧ ¬ g.W dd) ∧ Reps K g n H ds vs
  | .shr d, ov => ∃ v, ov = some v ∧ Rep K g n H d v
  | .own d, ov => ∃ a, ov = some (.ref a) ∧ g.M a ∧ OwR K g n H a d
def CeR (K : Kc) (g : Gh) (n : Nat) (H : Hp) (a : Addr) : CO → Prop
  | .dead => True
  | .lst ds => g.M a ∧ ∃ vs, H a = some (.lst vs) ∧ Reps K g n H ds vs
  | .dic ks es => g.M a ∧ ∃ kk ws, DcR H a kk ws ∧ Reps K g n H ks kk ∧ Reps K g n H es ws
  | .obj c ds => g.M a ∧ ∃ vs, ObR K H a c vs ∧ Reps K g n H ds vs
def Live (h : List CO) (l : Nat) : Prop := ∃ o, h[l]? = some o ∧ o ≠ .dead
def OwnAt (e : List Sl) (s : L2.St) (i : Nat) (a : Addr) : Prop := (∃ d, e[i]? = some (.own d)) ∧ s[i]? = some (some (.ref a))

/-- the state st of the small Python is s, H -/
structure Abs (K : Kc) (g : Gh) (st : Stt) (s : L2.St) (H : Hp) : Prop where
  mw : ∀ a, g.M a → g.W a
  wt : ∀ a, g.W a → ∃ o, H a = some o
  sl : ∀ (i : Nat) (x : Sl), st.e[i]? = some x → ∃ ov, s[i]? = some ov ∧ SlR K g st.h.length H x ov
  oo : ∀ i j a, OwnAt st.e s i a → OwnAt st.e s j a → i = j
  oc : ∀ i a l, OwnAt st.e s i a → Live st.h l → g.io l ≠ a
  ce : ∀ (l : Nat) (o : CO), st.h[l]? = some o → CeR K g st.h.length H (g.io l) o
  cc : ∀ l m, Live st.h l → Live st.h m → g.io l = g.io m → l = m

section
variable {K : Kc} {g g' : Gh} {n n' : Nat} {H H' : Hp} {st : Stt} {s : L2.St}
theorem OwR.kp (k : Kp g n H g' n' H') {a : Addr} (ha : ∀ o, H a = some o → H' a = some o) : ∀ {d : D}, OwR K g n H a d → OwR K g' n' H' a d
  | .lst _, ⟨vs, h, r⟩ => ⟨vs, ha _ h, Reps.kp k r⟩
  | .dic _ _, ⟨kk, ws, ⟨kvs, h, e1, e2⟩, r1, r2⟩ => ⟨kk, ws, ⟨kvs, ha _ h, e1, e2⟩, Reps.kp k r1, Reps.kp k r2⟩
theorem CeR.kp (k : Kp g n H g' n' H') {a : Addr} (ha : ∀ o, H a = some o → H' a = some o) (hm : g.M a → g'.M a) : ∀ {c : CO}, CeR K g n H a c → CeR K g' n' H' a c
  | .dead, _ => trivial
  | .lst _, ⟨m, vs, h, r⟩ => ⟨hm m, vs, ha _ h, Reps.kp k r⟩
  | .dic _ _, ⟨m, kk, ws, ⟨kvs, h, e1, e2⟩, r1, r2⟩ => ⟨hm m, kk, ws, ⟨kvs, ha _ h, e1, e2⟩, Reps.kp k r1, Reps.kp k r2⟩
  | .obj _ _, ⟨m, vs, ⟨hc, hl, dx, h⟩, r⟩ => ⟨hm m, vs, ⟨hc, hl, dx, ha _ h⟩, Reps.kp k r⟩
theorem SlR.kpE (k : Kp g n H g' n' H') {c : Nat} {ds : List D} {ov : Option V} : SlR K g n H (.exc c ds) ov → SlR K g' n' H' (.exc c ds) ov
  | ⟨a, oe, dd, vs, e1, e2, e3, e4, e5, e6, e7, ⟨h, w⟩, r⟩ => ⟨a, oe, dd, vs, e1, e2, e3, e4, e5, e6, e7, k.keep dd _ h w, r.kp k⟩
theorem SlR.kp (k : Kp g n H g' n' H') (ho : ∀ a o, g.M a → H a = some o → H' a = some o ∧ g'.M a) : ∀ {x : Sl} {ov : Option V}, SlR K g n H x ov → SlR K g' n' H' x ov
  | .un, _, _ => trivial
  | .shr _, _, ⟨v, e, r⟩ => ⟨v, e, r.kp k⟩
  | .exc _ _, _, ⟨a, oe, dd, vs, e1, e2, e3, e4, e5, e6, e7, ⟨h, w⟩, r⟩ => ⟨a, oe, dd, vs, e1, e2, e3, e4, e5, e6, e7, k.keep dd _ h w, r.kp k⟩
  | .own d, _, ⟨a, e, m, r⟩ => by
    cases d with
    | lst ds => obtain ⟨vs, h, q⟩ := r; exact ⟨a, e, (ho a _ m h).2, vs, (ho a _ m h).1, q.kp k⟩
    | dic ks es => obtain ⟨kk, ws, ⟨kvs, h, e1, e2⟩, r1, r2⟩ := r; exact ⟨a, e, (ho a _ m h).2, kk, ws, ⟨kvs, (ho a _ m h).1, e1, e2⟩, r1.kp k, r2.kp k⟩
    | _ => exact r.elim
theorem Kp.alloc (wt : ∀ a, g.W a → ∃ o, H a = some o) {p : Addr} (hp : H p = none) {o : HO} : Kp g n H g n (upd H p o) :=
  ⟨fun a u h w => ⟨by rw [upd_ne (ne_of_none h hp)]; exact h, w⟩, fun _ _ => rfl, Nat.le_refl _⟩
theorem Kp.allocO (wt : ∀ a, g.W a → ∃ o, H a = some o) {p : Addr} (hp : H p = none) {o : HO} : Kp g n H (g.add p) n (upd H p o) :=
  ⟨fun a u h w => ⟨by rw [upd_ne (ne_of_none h hp)]; exact h, fun z => z.elim (ne_of_none h hp) w⟩, fun _ _ => rfl, Nat.le_refl _⟩
/-- a new object that is shared -/
theorem Abs.alloc (A : Abs K g st s H) {p : Addr} (hp : H p = none) (o : HO) : Abs K g st s (upd H p o) ∧ Ext g st.h.length H g st.h.length (upd H p o) := by
  have k : Kp g st.h.length H g st.h.length (upd H p o) := Kp.alloc A.wt hp
  have ke : ∀ a u, H a = some u → upd H p o a = some u := fun a u h => by rw [upd_ne (ne_of_none h hp)]; exact h
  refine ⟨⟨A.mw, fun a w => ?_, fun i x e => ?_, A.oo, A.oc, fun l c e => CeR.kp k (ke _) id (A.ce l c e), A.cc⟩, ⟨fun a u h _ => ke a u h, fun _ _ _ _ => Iff.rfl, fun _ _ _ m => m, fun _ _ => rfl, Nat.le_refl _⟩⟩
  · obtain ⟨u, h⟩ := A.wt a w
    exact ⟨u, ke a u h⟩
  · obtain ⟨ov, e1, r⟩ := A.sl i x e
    exact ⟨ov, e1, r.kp k fun a o m h => ⟨ke a o h, m⟩⟩
/-- a new object that one alone holds -/
theorem Abs.allocO (A : Abs K g st s H) {p : Addr} (hp : H p = none) (o : HO) : Abs K (g.add p) st s (upd H p o) ∧ Ext g st.h.length H (g.add p) st.h.length (upd H p o) := by
  have k : Kp g st.h.length H (g.add p) st.h.length (upd H p o) := Kp.allocO A.wt hp
  have ke : ∀ a u, H a = some u → upd H p o a = some u := fun a u h => by rw [upd_ne (ne_of_none h hp)]; exact h
  refine ⟨⟨fun a m => m.imp id (A.mw a), fun a w => ?_, fun i x e => ?_, A.oo, A.oc, fun l c e => CeR.kp k (ke _) .inr (A.ce l c e), A.cc⟩,
    ⟨fun a u h _ => ke a u h, fun a u h _ => ⟨fun z => z.elim (fun e => absurd e (ne_of_none h hp)) id, .inr⟩, fun a u h m z => z.elim (ne_of_none h hp) m, fun _ _ => rfl, Nat.le_refl _⟩⟩
  · rcases w with e | w
    · subst e; exact ⟨o, upd_same⟩
    · obtain ⟨u, h⟩ := A.wt a w
      exact ⟨u, ke a u h⟩
  · obtain ⟨ov, e1, r⟩ := A.sl i x e
    exact ⟨ov, e1, r.kp k fun a o m h => ⟨ke a o h, .inr m⟩⟩
end

/-- a value that may be looked at: shared, or the content of a held object -/
def Vw (K : Kc) (g : Gh) (n : Nat) (H : Hp) : D → V → Prop
  | .lst ds, v => ∃ a vs, v = .ref a ∧ H a = some (.lst vs) ∧ Reps K g n H ds vs
  | .dic ks es, v => ∃ a kk ws, v = .ref a ∧ DcR H a kk ws ∧ Reps K g n H ks kk ∧ Reps K g n H es ws
  | .obj c ds, v => ∃ a vs, v = .ref a ∧ ObR K H a c vs ∧ Reps K g n H ds vs
  | d, v => Rep K g n H d v
/-- an operand: a shared value, or the content of a held container -/
def contD : D → Bool
  | .lst _ => true
  | .dic _ _ => true
  | _ => false
def Opr (K : Kc) (g : Gh) (n : Nat) (H : Hp) (d : D) (v : V) : Prop := Rep K g n H d v ∨ (contD d = true ∧ Vw K g n H d v)
def Oprs (K : Kc) (g : Gh) (n : Nat) (H : Hp) : List D → List V → Prop
  | [], vs => vs = []
  | d :: ds, vs => ∃ v r, vs = v :: r ∧ Opr K g n H d v ∧ Oprs K g n H ds r
def Vws (K : Kc) (g : Gh) (n : Nat) (H : Hp) : List D → List V → Prop
  | [], vs => vs = []
  | d :: ds, vs => ∃ v r, vs = v :: r ∧ Vw K g n H d v ∧ Vws K g n H ds r
section
variable {K : Kc} {g g' : Gh} {n n' : Nat} {H H' : Hp} {st : Stt} {s : L2.St}
theorem Rep.vw : ∀ {d : D} {v : V}, Rep K g n H d v → Vw K g n H d v
  | .non, _, h => h
  | .bl _, _, h => h
  | .int _, _, h => h
  | .str _, _, h => h
  | .tup _, _, h => h
  | .lst _, _, ⟨a, vs, e, h, r⟩ => ⟨a, vs, e, h.1, r⟩
  | .dic _ _, _, ⟨a, kk, ws, e, ⟨h, _⟩, r1, r2⟩ => ⟨a, kk, ws, e, h, r1, r2⟩
  | .obj _ _, _, ⟨a, vs, e, ⟨h, _⟩, r⟩ => ⟨a, vs, e, h, r⟩
  | .cell _, _, h => h
  | .scr _, _, h => h
theorem OwR.vw {a : Addr} : ∀ {d : D}, OwR K g n H a d → Vw K g n H d (.ref a)
  | .lst _, ⟨vs, h, r⟩ => ⟨a, vs, rfl, h, r⟩
  | .dic _ _, ⟨kk, ws, h, r1, r2⟩ => ⟨a, kk, ws, rfl, h, r1, r2⟩
/-- what a shared value shows -/
theorem Abs.view (A : Abs K g st s H) : ∀ {d : D} {v : V}, Rep K g st.h.length H d v → Vw K g st.h.length H (view st.h d) v
  | .non, _, h => h
  | .bl _, _, h => h
  | .int _, _, h => h
  | .str _, _, h => h
  | .tup _, _, h => h.vw
  | .lst _, _, h => h.vw
  | .dic _ _, _, h => h.vw
  | .obj _ _, _, h => h.vw
  | .scr _, _, h => h
  | .cell l, v, ⟨h, e⟩ => by
    subst e
    have q : st.h[l]? = some (st.h[l]'h) := List.getElem?_eq_getElem h
    have c := A.ce l _ q
    have ev : Mp.view st.h (.cell l) = (match st.h[l]? with
      | some (.lst ds) => D.lst ds
      | some (.dic ks vs) => D.dic ks vs
      | some (.obj c ds) => D.obj c ds
      | _ => D.cell l) := rfl
    rw [ev, q]
    cases hc : st.h[l]'h with
    | dead => exact ⟨h, rfl⟩
    | lst ds => rw [hc] at c; obtain ⟨_, vs, h1, r⟩ := c; exact ⟨_, vs, rfl, h1, r⟩
    | dic ks es => rw [hc] at c; obtain ⟨_, kk, ws, h1, r1, r2⟩ := c; exact ⟨_, kk, ws, rfl, h1, r1, r2⟩
    | obj k ds => rw [hc] at c; obtain ⟨_, vs, h1, r⟩ := c; exact ⟨_, vs, rfl, h1, r⟩
theorem view_cont {h : List CO} {d : D} (e : contD d = true) : Mp.view h d = d := by cases d <;> first | rfl | cases e
theorem Opr.view {d : D} {v : V} (o : Opr K g st.h.length H d v) (A : Abs K g st s H) : Vw K g st.h.length H (Mp.view st.h d) v := by
  rcases o with r | ⟨e, r⟩
  · exact A.view r
  · rw [view_cont e]; exact r
theorem Oprs.view (A : Abs K g st s H) : ∀ {ds : List D} {vs : List V}, Oprs K g st.h.length H ds vs → Vws K g st.h.length H (ds.map (Mp.view st.h)) vs
  | [], _, h => h
  | _ :: _, _, ⟨v, r, e, h, t⟩ => ⟨v, r, e, h.view A, Oprs.view A t⟩
end
end Mp
namespace Mp
open PySem PySem.Spec L2

/-- how a result stands: m: nobody else holds it -/
def RepM (K : Kc) (g : Gh) (st : Stt) (s : L2.St) (H : Hp) : Bool → D → V → Prop
  | false, d, v => Rep K g st.h.length H d v
  | true, d, v => (∃ a, v = .ref a ∧ g.M a ∧ OwR K g st.h.length H a d ∧ (∀ i, ¬ OwnAt st.e s i a) ∧ ∀ l, Live st.h l → g.io l ≠ a) ∨ (scalD d = true ∧ Rep K g st.h.length H d v)
/-- how an exception stands: its class's number and fields; its class, its own dict -/
abbrev ExT := Gh → Nat → Hp → Nat → List D → Value → Option Addr → Prop
/-- the reading of an expression -/
def rdE (K : Kc) (ER : ExT) (Wx : WX) (w : Stt → PD → PX → Prop) (m : Bool) : TE := fun s H Q => ∃ (g : Gh) (st : Stt) (Qd : PD) (Xd : PX), Abs K g st s H ∧ w st Qd Xd ∧
  (∀ d st' v g' H', Qd d st' → Ext g st.h.length H g' st'.h.length H' → Abs K g' st' s H' → RepM K g' st' s H' m d v → Q v H') ∧
  (∀ c fs st' cls dd g' H', Xd c fs st' → Ext g st.h.length H g' st'.h.length H' → Abs K g' st' s H' → ER g' st'.h.length H' c fs cls dd → Wx cls dd s H')
/-- .. of a test -/
def rdT (K : Kc) (ER : ExT) (Wx : WX) (w : Stt → (Bool → Stt → Prop) → PX → Prop) : TT := fun s H Q => ∃ (g : Gh) (st : Stt) (Qd : Bool → Stt → Prop) (Xd : PX), Abs K g st s H ∧ w st Qd Xd ∧
  (∀ b st' g' H', Qd b st' → Ext g st.h.length H g' st'.h.length H' → Abs K g' st' s H' → Q b H') ∧
  (∀ c fs st' cls dd g' H', Xd c fs st' → Ext g st.h.length H g' st'.h.length H' → Abs K g' st' s H' → ER g' st'.h.length H' c fs cls dd → Wx cls dd s H')
/-- .. of operands, of values to be kept -/
def rdA (K : Kc) (ER : ExT) (Wx : WX) (w : Stt → (List D → Stt → Prop) → PX → Prop) : TA := fun s H Q => ∃ (g : Gh) (st : Stt) (Qd : List D → Stt → Prop) (Xd : PX), Abs K g st s H ∧ w st Qd Xd ∧
  (∀ ds st' vs g' H', Qd ds st' → Ext g st.h.length H g' st'.h.length H' → Abs K g' st' s H' → Oprs K g' st'.h.length H' ds vs → Q vs H') ∧
  (∀ c fs st' cls dd g' H', Xd c fs st' → Ext g st.h.length H g' st'.h.length H' → Abs K g' st' s H' → ER g' st'.h.length H' c fs cls dd → Wx cls dd s H')
def rdL (K : Kc) (ER : ExT) (Wx : WX) (n : Nat) (w : Stt → (List D → Stt → Prop) → PX → Prop) : TA := fun s H Q => ∃ (g : Gh) (st : Stt) (Qd : List D → Stt → Prop) (Xd : PX), Abs K g st s H ∧ w st Qd Xd ∧
  (∀ ds st' vs g' H', Qd ds st' → Ext g st.h.length H g' st'.h.length H' → Abs K g' st' s H' → Reps K g' st'.h.length H' ds vs → vs.length = n → Q vs H') ∧
  (∀ c fs st' cls dd g' H', Xd c fs st' → Ext g st.h.length H g' st'.h.length H' → Abs K g' st' s H' → ER g' st'.h.length H' c fs cls dd → Wx cls dd s H')
/-- an operand's reading -/
def rdO (K : Kc) (ER : ExT) (Wx : WX) (C : Calls) : Ex → TE
  | .brw i => tVar i
  | t => rdE K ER Wx (wE C t) false

section
variable {X : Cx} {e : Expr} {es : List Expr} {t t' : TE} {u u' : TA} {tt tt' : TT}
theorem peImp (h : PE X e t) (i : ∀ s H Q, t' s H Q → t s H Q) : PE X e t' := ⟨fun pins s σ H Q I q => h.run pins s σ H Q I (i σ H Q q)⟩
theorem ptImp (h : PT X e tt) (i : ∀ s H Q, tt' s H Q → tt s H Q) : PT X e tt' := ⟨fun pins s σ H Q I q => h.run pins s σ H Q I (i σ H Q q)⟩
theorem pwImp (h : PW X e tt) (i : ∀ s H Q, tt' s H Q → tt s H Q) : PW X e tt' := ⟨fun wh pins s σ H Q I q => h.run wh pins s σ H Q I (i σ H Q q)⟩
theorem paImp (h : PA X es u) (i : ∀ s H Q, u' s H Q → u s H Q) : PA X es u' := ⟨fun pos pins s σ H Q I q => h.run pos pins s σ H Q I (i σ H Q q)⟩
end

section
variable {K : Kc} {g g' : Gh} {n n' : Nat} {H H' : Hp} {st : Stt} {s : L2.St} {ER : ExT} {Wx : WX} {C : Calls}
/-- Rep does not look at M -/
theorem Kp.sameW (hW : ∀ a, g'.W a ↔ g.W a) (hi : ∀ l, g'.io l = g.io l) : Kp g n H g' n H := ⟨fun a _ h w => ⟨h, fun z => w ((hW a).mp z)⟩, fun l _ => hi l, Nat.le_refl _⟩
theorem Kp.del {p : Addr} : Kp g n H (g.del p) n H := ⟨fun a _ h w => ⟨h, fun z => w z.2⟩, fun _ _ => rfl, Nat.le_refl _⟩
theorem Abs.slot (A : Abs K g st s H) {i : Nat} {d : D} (h : rdS st.e i = some d) : ∃ v, s[i]? = some (some v) ∧ Opr K g st.h.length H d v := by
  unfold rdS at h
  cases q : st.e[i]? with
  | none => rw [q] at h; cases h
  | some x =>
    rw [q] at h
    obtain ⟨ov, e1, r⟩ := A.sl i x q
    cases x with
    | un => cases h
    | exc c' d' => cases h
    | shr d' =>
      cases h
      obtain ⟨v, e2, r⟩ := r
      exact ⟨v, by rw [e1, e2], .inl r⟩
    | own d' =>
      cases h
      obtain ⟨a, e2, _, r⟩ := r
      refine ⟨.ref a, by rw [e1, e2], ?_⟩
      cases d with
      | lst ds => exact .inr ⟨rfl, r.vw⟩
      | dic ks es => exact .inr ⟨rfl, r.vw⟩
      | _ => exact r.elim
/-- a held container is given away: it is frozen from now on -/
theorem Abs.freeze (A : Abs K g st s H) {i : Nat} {d : D} (hi : st.e[i]? = some (.own d)) : ∃ a, s[i]? = some (some (.ref a)) ∧ Abs K (g.del a) ⟨st.e.set i (.shr d), st.h⟩ s H ∧ Ext g st.h.length H (g.del a) st.h.length H ∧ Rep K (g.del a) st.h.length H d (.ref a) := by
  obtain ⟨ov, e1, a, e2, m, r⟩ := A.sl i _ hi
  subst e2
  have ow : OwnAt st.e s i a := ⟨⟨d, hi⟩, e1⟩
  have k : Kp g st.h.length H (g.del a) st.h.length H := Kp.del
  have rd : Rep K (g.del a) st.h.length H d (.ref a) := by
    cases d with
    | lst ds => obtain ⟨vs, h, q⟩ := r; exact ⟨a, vs, rfl, ⟨h, fun z => z.1 rfl⟩, q.kp k⟩
    | dic ks es => obtain ⟨kk, ws, h, q1, q2⟩ := r; exact ⟨a, kk, ws, rfl, ⟨h, fun z => z.1 rfl⟩, q1.kp k, q2.kp k⟩
    | _ => exact r.elim
  have hlt : i < st.e.length := by
    rcases Nat.lt_or_ge i st.e.length with h | h
    · exact h
    · rw [List.getElem?_eq_none h] at hi; cases hi
  have own_of : ∀ j b, OwnAt (st.e.set i (.shr d)) s j b → OwnAt st.e s j b ∧ j ≠ i := fun j b ⟨⟨d', h1⟩, h2⟩ => by
    by_cases hj : j = i
    · subst hj
      rw [List.getElem?_set_self hlt] at h1
      cases h1
    · rw [List.getElem?_set_ne (Ne.symm hj)] at h1
      exact ⟨⟨⟨d', h1⟩, h2⟩, hj⟩
  refine ⟨a, e1, ⟨fun b z => ⟨z.1, A.mw b z.2⟩, fun b z => A.wt b z.2, fun j x h => ?_, fun j j' b h1 h2 => A.oo j j' b (own_of j b h1).1 (own_of j' b h2).1, fun j b l h1 h2 => A.oc j b l (own_of j b h1).1 h2, fun l o h => ?_, A.cc⟩,
    ⟨fun _ _ h _ => h, fun b o h m' => ⟨fun z => z.2, fun z => ⟨fun e => m' (by rw [e]; exact m), z⟩⟩, fun b o h m' z => m' z.2, fun _ _ => rfl, Nat.le_refl _⟩, rd⟩
  · by_cases hj : j = i
    · subst hj
      rw [List.getElem?_set_self hlt] at h
      cases h
      exact ⟨_, e1, _, rfl, rd⟩
    · rw [List.getElem?_set_ne (Ne.symm hj)] at h
      obtain ⟨ov, f1, q⟩ := A.sl j x h
      refine ⟨ov, f1, ?_⟩
      cases x with
      | un => trivial
      | shr d' => obtain ⟨v, f2, q⟩ := q; exact ⟨v, f2, q.kp k⟩
      | exc c' d' => exact q.kpE k
      | own d' =>
        obtain ⟨b, f2, m', q⟩ := q
        have nb : b ≠ a := fun z => hj (A.oo j i b ⟨⟨d', h⟩, by rw [f1, f2]⟩ (by rw [z]; exact ow))
        exact ⟨b, f2, ⟨nb, m'⟩, q.kp k fun _ z => z⟩
  · have c := A.ce l o h
    cases o with
    | dead => trivial
    | _ => exact CeR.kp k (fun _ z => z) (fun z => ⟨A.oc i a l ow ⟨_, h, by intro z; cases z⟩, z⟩) c
/-- a held container is taken out of its slot -/
theorem Abs.take (A : Abs K g st s H) {i : Nat} {d : D} (hi : st.e[i]? = some (.own d)) : ∃ a, s[i]? = some (some (.ref a)) ∧ Abs K g ⟨st.e.set i .un, st.h⟩ s H ∧ g.M a ∧ OwR K g st.h.length H a d ∧ (∀ j, ¬ OwnAt (st.e.set i .un) s j a) ∧ ∀ l, Live st.h l → g.io l ≠ a := by
  obtain ⟨ov, e1, a, e2, m, r⟩ := A.sl i _ hi
  subst e2
  have ow : OwnAt st.e s i a := ⟨⟨d, hi⟩, e1⟩
  have hlt : i < st.e.length := by
    rcases Nat.lt_or_ge i st.e.length with h | h
    · exact h
    · rw [List.getElem?_eq_none h] at hi; cases hi
  have own_of : ∀ j b, OwnAt (st.e.set i .un) s j b → OwnAt st.e s j b ∧ j ≠ i := fun j b ⟨⟨d', h1⟩, h2⟩ => by
    by_cases hj : j = i
    · subst hj
      rw [List.getElem?_set_self hlt] at h1
      cases h1
    · rw [List.getElem?_set_ne (Ne.symm hj)] at h1
      exact ⟨⟨⟨d', h1⟩, h2⟩, hj⟩
  refine ⟨a, e1, ⟨A.mw, A.wt, fun j x h => ?_, fun j j' b h1 h2 => A.oo j j' b (own_of j b h1).1 (own_of j' b h2).1, fun j b l h1 h2 => A.oc j b l (own_of j b h1).1 h2, A.ce, A.cc⟩, m, r, fun j z => (own_of j a z).2 (A.oo j i a (own_of j a z).1 ow), fun l z => A.oc i a l ow z⟩
  by_cases hj : j = i
  · subst hj
    rw [List.getElem?_set_self hlt] at h
    cases h
    exact ⟨_, e1, trivial⟩
  · rw [List.getElem?_set_ne (Ne.symm hj)] at h
    exact A.sl j x h
/-- an operand, then the others -/
theorem split_cons {ex : Ex} {rest : List Ex} {Q : List V → Hp → Prop} (h : rdA K ER Wx (wA C (ex :: rest)) s H Q) :
    rdO K ER Wx C ex s H fun x H1 => rdA K ER Wx (wA C rest) s H1 fun xs H2 => Q (x :: xs) H2 := by
  obtain ⟨g, st, Qd, Xd, A, w, hq, hx⟩ := h
  by_cases b : ∃ i, ex = .brw i
  · obtain ⟨i, rfl⟩ := b
    obtain ⟨w0, w1⟩ : (rdS st.e i).isSome = true ∧ wA C rest st (fun ds st2 => ∃ d, rdS st2.e i = some d ∧ Qd (d :: ds) st2) Xd := by
      simpa only [wA] using w
    obtain ⟨d0, hd0⟩ := Option.isSome_iff_exists.mp w0
    obtain ⟨v, e1, _⟩ := A.slot hd0
    refine ⟨v, e1, g, st, _, Xd, A, w1, fun ds st' vs g' H' ⟨d, hd, q⟩ ex' A' r => ?_, hx⟩
    obtain ⟨v', e2, r'⟩ := A'.slot hd
    rw [e1] at e2
    cases e2
    exact hq _ _ _ _ _ q ex' A' ⟨v, vs, rfl, r', r⟩
  · have e1 : wA C (ex :: rest) st Qd Xd = wE C ex st (fun d st1 => wA C rest st1 (fun ds st2 => Qd (d :: ds) st2) Xd) Xd := by
      cases ex <;> first | rfl | exact absurd ⟨_, rfl⟩ b
    have e2 : rdO K ER Wx C ex = rdE K ER Wx (wE C ex) false := by
      cases ex <;> first | rfl | exact absurd ⟨_, rfl⟩ b
    rw [e1] at w
    rw [e2]
    refine ⟨g, st, _, Xd, A, w, fun d st1 v g1 H1 w1 x1 A1 r1 => ?_, hx⟩
    refine ⟨g1, st1, _, Xd, A1, w1, fun ds st2 vs g2 H2 q x2 A2 r2 => ?_, fun c fs st2 cls dd g2 H2 q x2 A2 r2 => hx _ _ _ _ _ _ _ q (x1.trans x2) A2 r2⟩
    exact hq _ _ _ _ _ q (x1.trans x2) A2 ⟨v, vs, rfl, .inl (Rep.kp (x2.kp A1.mw) r1), r2⟩
theorem split_nil {Q : List V → Hp → Prop} (h : rdA K ER Wx (wA C []) s H Q) : Q [] H := by
  obtain ⟨g, st, Qd, Xd, A, w, hq, hx⟩ := h
  have w' : Qd [] st := by simpa only [wA] using w
  exact hq _ _ _ _ _ w' (Ext.refl _ _ _) A rfl
theorem splitL_cons {ex : Ex} {rest : List Ex} {Q : List V → Hp → Prop} (h : rdL K ER Wx (rest.length + 1) (wL C (ex :: rest)) s H Q) :
    rdE K ER Wx (wE C ex) false s H fun x H1 => rdL K ER Wx rest.length (wL C rest) s H1 fun xs H2 => Q (x :: xs) H2 := by
  obtain ⟨g, st, Qd, Xd, A, w, hq, hx⟩ := h
  have w' : wE C ex st (fun d st1 => wL C rest st1 (fun ds st2 => Qd (d :: ds) st2) Xd) Xd := by simpa only [wL] using w
  refine ⟨g, st, _, Xd, A, w', fun d st1 v g1 H1 w1 x1 A1 r1 => ?_, hx⟩
  refine ⟨g1, st1, _, Xd, A1, w1, fun ds st2 vs g2 H2 q x2 A2 r2 hl => ?_, fun c fs st2 cls dd g2 H2 q x2 A2 r2 => hx _ _ _ _ _ _ _ q (x1.trans x2) A2 r2⟩
  exact hq _ _ _ _ _ q (x1.trans x2) A2 ⟨v, vs, rfl, Rep.kp (x2.kp A1.mw) r1, r2⟩ (congrArg Nat.succ hl)
theorem splitL_nil {Q : List V → Hp → Prop} (h : rdL K ER Wx 0 (wL C []) s H Q) : Q [] H := by
  obtain ⟨g, st, Qd, Xd, A, w, hq, hx⟩ := h
  have w' : Qd [] st := by simpa only [wL] using w
  exact hq _ _ _ _ _ w' (Ext.refl _ _ _) A rfl rfl
end
end Mp
namespace Mp
open PySem PySem.Spec L2

/-- behind the operands: the operation's wish -/
def OpPost (K : Kc) (s : L2.St) (o : Op) (m : Bool) (vs : List V) (H : Hp) (Q : VK) : Prop :=
  ∃ (g : Gh) (st : Stt) (ds : List D) (Qd : D → Prop), Abs K g st s H ∧ Vws K g st.h.length H ds vs ∧ opW o ds Qd ∧
    ∀ d v g' H', Qd d → Ext g st.h.length H g' st.h.length H' → Abs K g' st s H' → RepM K g' st s H' m d v → Q v H'
section
variable {K : Kc} {s : L2.St} {H : Hp} {ER : ExT} {Wx : WX} {C : Calls} {Q : VK} {o : Op} {m : Bool}
theorem rdE_op {es : List Ex} (h : rdE K ER Wx (wE C (.op o es)) m s H Q) : rdA K ER Wx (wA C es) s H fun vs H' => OpPost K s o m vs H' Q := by
  obtain ⟨g, st, Qd, Xd, A, w, hq, hx⟩ := h
  have w' : wA C es st (fun ds st1 => opW o (ds.map (view st1.h)) fun d => Qd d st1) Xd := by simpa only [wE] using w
  exact ⟨g, st, _, Xd, A, w', fun ds st' vs g' H' q x A' r => ⟨g', st', _, _, A', r.view A', q, fun d v g2 H2 qd x2 A2 r2 => hq _ _ _ _ _ qd (x.trans x2) A2 r2⟩, hx⟩
theorem rdE_mono {w : Stt → PD → PX → Prop} {Q' : VK} (h : rdE K ER Wx w m s H Q) (i : ∀ v H', Q v H' → Q' v H') : rdE K ER Wx w m s H Q' := by
  obtain ⟨g, st, Qd, Xd, A, w, hq, hx⟩ := h
  exact ⟨g, st, Qd, Xd, A, w, fun d st' v g' H' q x A' r => i _ _ (hq d st' v g' H' q x A' r), hx⟩
theorem rdO_mono {t : Ex} {Q' : VK} (h : rdO K ER Wx C t s H Q) (i : ∀ v H', Q v H' → Q' v H') : rdO K ER Wx C t s H Q' := by
  by_cases b : ∃ j, t = .brw j
  · obtain ⟨j, rfl⟩ := b
    obtain ⟨v, e, q⟩ := h
    exact ⟨v, e, i _ _ q⟩
  · have e2 : rdO K ER Wx C t = rdE K ER Wx (wE C t) false := by
      cases t <;> first | rfl | exact absurd ⟨_, rfl⟩ b
    rw [e2] at h ⊢
    exact rdE_mono h i
theorem rdA_mono {w : Stt → (List D → Stt → Prop) → PX → Prop} {R R' : List V → Hp → Prop} (h : rdA K ER Wx w s H R) (i : ∀ v H', R v H' → R' v H') : rdA K ER Wx w s H R' := by
  obtain ⟨g, st, Qd, Xd, A, w, hq, hx⟩ := h
  exact ⟨g, st, Qd, Xd, A, w, fun d st' v g' H' q x A' r => i _ _ (hq d st' v g' H' q x A' r), hx⟩
theorem rdL_mono {n : Nat} {w : Stt → (List D → Stt → Prop) → PX → Prop} {R R' : List V → Hp → Prop} (h : rdL K ER Wx n w s H R) (i : ∀ v H', R v H' → R' v H') : rdL K ER Wx n w s H R' := by
  obtain ⟨g, st, Qd, Xd, A, w, hq, hx⟩ := h
  exact ⟨g, st, Qd, Xd, A, w, fun d st' v g' H' q x A' r l => i _ _ (hq d st' v g' H' q x A' r l), hx⟩
/-- two operands -/
theorem rdE_op2 {a b : Ex} (h : rdE K ER Wx (wE C (.op o [a, b])) m s H Q) : rdO K ER Wx C a s H fun x H1 => rdO K ER Wx C b s H1 fun y H2 => OpPost K s o m [x, y] H2 Q :=
  rdO_mono (split_cons (rdE_op h)) fun x H1 h1 => rdO_mono (split_cons h1) fun y H2 h2 => split_nil h2
theorem rdE_op1 {a : Ex} (h : rdE K ER Wx (wE C (.op o [a])) m s H Q) : rdO K ER Wx C a s H fun x H1 => OpPost K s o m [x] H1 Q :=
  rdO_mono (split_cons (rdE_op h)) fun x H1 h1 => split_nil h1

/-! ### values -/
theorem Vws.two {g : Gh} {n : Nat} {ds : List D} {x y : V} (h : Vws K g n H ds [x, y]) : ∃ a b, ds = [a, b] ∧ Vw K g n H a x ∧ Vw K g n H b y := by
  match ds, h with
  | [], h => cases h
  | [_], ⟨_, _, e, _, e2⟩ => cases e; cases e2
  | [a, b], ⟨_, _, e, h1, _, _, e2, h2, _⟩ => cases e; cases e2; exact ⟨a, b, rfl, h1, h2⟩
  | _ :: _ :: _ :: _, ⟨_, _, e, _, _, _, e2, _, _, _, e3, _⟩ => cases e; cases e2; cases e3
theorem Vws.one {g : Gh} {n : Nat} {ds : List D} {x : V} (h : Vws K g n H ds [x]) : ∃ a, ds = [a] ∧ Vw K g n H a x := by
  match ds, h with
  | [], h => cases h
  | [a], ⟨_, _, e, h1, _⟩ => cases e; exact ⟨a, rfl, h1⟩
  | _ :: _ :: _, ⟨_, _, e, _, _, _, e2, _⟩ => cases e; cases e2
theorem Vws.to1 {g : Gh} {n : Nat} {a : D} {vs : List V} (h : Vws K g n H [a] vs) : ∃ x, vs = [x] ∧ Vw K g n H a x := by
  obtain ⟨x, r, e, h1, h2⟩ := h
  cases h2
  exact ⟨x, e, h1⟩
theorem Vws.to2 {g : Gh} {n : Nat} {a b : D} {vs : List V} (h : Vws K g n H [a, b] vs) : ∃ x y, vs = [x, y] ∧ Vw K g n H a x ∧ Vw K g n H b y := by
  obtain ⟨x, r, e, h1, y, r2, e2, h2, h3⟩ := h
  cases h3
  subst e2
  exact ⟨x, y, e, h1, h2⟩
theorem int2_inv {ds : List D} {k : Int → Int → Prop} (h : int2 ds k) : ∃ i j, ds = [.int i, .int j] ∧ k i j := by
  unfold int2 at h
  split at h
  · exact ⟨_, _, rfl, h⟩
  · exact h.elim
theorem int1_inv {ds : List D} {k : Int → Prop} (h : int1 ds k) : ∃ i, ds = [.int i] ∧ k i := by
  unfold int1 at h
  split at h
  · exact ⟨_, rfl, h⟩
  · exact h.elim
theorem any1_inv {ds : List D} {k : D → Prop} (h : any1 ds k) : ∃ a, ds = [a] ∧ k a := by
  unfold any1 at h
  split at h
  · exact ⟨_, rfl, h⟩
  · exact h.elim
theorem any2_inv {ds : List D} {k : D → D → Prop} (h : any2 ds k) : ∃ a b, ds = [a, b] ∧ k a b := by
  unfold any2 at h
  split at h
  · exact ⟨_, _, rfl, h⟩
  · exact h.elim
/-- a plain result -/
theorem OpPost.plain {g : Gh} {st : Stt} {Qd : D → Prop} {d : D} {v : V} (A : Abs K g st s H) (hq : ∀ d v g' H', Qd d → Ext g st.h.length H g' st.h.length H' → Abs K g' st s H' → RepM K g' st s H' false d v → Q v H') (q : Qd d) (r : Rep K g st.h.length H d v) : Q v H :=
  hq _ _ _ _ q (Ext.refl _ _ _) A r
/-- a new list -/
theorem new_lst {g : Gh} {st : Stt} {Qd : D → Prop} {ds : List D} {vs : List V} (A : Abs K g st s H) (hq : ∀ d v g' H', Qd d → Ext g st.h.length H g' st.h.length H' → Abs K g' st s H' → RepM K g' st s H' m d v → Q v H') (q : Qd (.lst ds)) (r : Reps K g st.h.length H ds vs) {p : Addr} (hp : H p = none) :
    Q (.ref p) (upd H p (.lst vs)) := by
  cases m with
  | false =>
    obtain ⟨A', x⟩ := A.alloc hp (.lst vs)
    exact hq _ _ _ _ q x A' ⟨p, vs, rfl, ⟨upd_same, fun w => by obtain ⟨o, h⟩ := A.wt p w; rw [hp] at h; cases h⟩, r.kp (x.kp A.mw)⟩
  | true =>
    obtain ⟨A', x⟩ := A.allocO hp (.lst vs)
    refine hq _ _ _ _ q x A' (.inl ⟨p, rfl, .inl rfl, ⟨vs, upd_same, r.kp (x.kp A.mw)⟩, fun i z => ?_, fun l z e => ?_⟩)
    · obtain ⟨⟨d, h1⟩, h2⟩ := z
      obtain ⟨ov, e1, a, e2, m', _⟩ := A.sl i _ h1
      rw [h2] at e1
      cases e1
      cases e2
      obtain ⟨o, h⟩ := A.wt p (A.mw p m')
      rw [hp] at h; cases h
    · obtain ⟨o, h1, h2⟩ := z
      have c := A.ce l o h1
      have e' : g.io l = p := e
      rw [e'] at c
      have mm : g.M p := by
        cases o with
        | dead => exact absurd rfl h2
        | lst _ => exact c.1
        | dic _ _ => exact c.1
        | obj _ _ => exact c.1
      obtain ⟨u, h⟩ := A.wt p (A.mw p mm)
      rw [hp] at h; cases h
/-- a new tuple -/
theorem new_tup {g : Gh} {st : Stt} {Qd : D → Prop} {ds : List D} {vs : List V} (A : Abs K g st s H) (hq : ∀ d v g' H', Qd d → Ext g st.h.length H g' st.h.length H' → Abs K g' st s H' → RepM K g' st s H' false d v → Q v H') (q : Qd (.tup ds)) (r : Reps K g st.h.length H ds vs) {p : Addr} (hp : H p = none) :
    Q (.ref p) (upd H p (.tup vs)) := by
  obtain ⟨A', x⟩ := A.alloc hp (.tup vs)
  exact hq _ _ _ _ q x A' ⟨p, vs, rfl, .inl ⟨.inl upd_same, fun w => by obtain ⟨o, h⟩ := A.wt p w; rw [hp] at h; cases h⟩, r.kp (x.kp A.mw)⟩

/-! ### ints -/
theorem post_i2 {x y : V} {P : Int → Int → Prop} {f : Int → Int → D} {fv : Int → Int → V} (hop : ∀ ds Qd, opW o ds Qd → int2 ds fun i j => P i j ∧ Qd (f i j)) (hf : ∀ g n H i j, Rep K g n H (f i j) (fv i j)) (h : OpPost K s o false [x, y] H Q) :
    rI P fv x y H Q := by
  obtain ⟨g, st, ds, Qd, A, r, w, hq⟩ := h
  obtain ⟨i, j, rfl, p, q⟩ := int2_inv (hop _ _ w)
  obtain ⟨a, b, e, r1, r2⟩ := r.two
  cases e
  exact ⟨i, j, r1, r2, p, OpPost.plain A hq q (hf _ _ _ _ _)⟩
theorem post_i0 {x y : V} {f : Int → Int → D} {fv : Int → Int → V} (hop : ∀ ds Qd, opW o ds Qd → int2 ds fun i j => Qd (f i j)) (hf : ∀ g n H i j, Rep K g n H (f i j) (fv i j)) (h : OpPost K s o false [x, y] H Q) :
    rI0 fv x y H Q := by
  obtain ⟨g, st, ds, Qd, A, r, w, hq⟩ := h
  obtain ⟨i, j, rfl, q⟩ := int2_inv (hop _ _ w)
  obtain ⟨a, b, e, r1, r2⟩ := r.two
  cases e
  exact ⟨i, j, r1, r2, OpPost.plain A hq q (hf _ _ _ _ _)⟩
theorem Reps.rep {g : Gh} {n : Nat} {ds : List D} {vs : List V} (h : Reps K g n H ds vs) : ∀ k : Nat, Reps K g n H (List.replicate k ds).flatten (List.replicate k vs).flatten
  | 0 => rfl
  | k + 1 => by
    rw [List.replicate_succ, List.replicate_succ, List.flatten_cons, List.flatten_cons]
    exact h.append (Reps.rep h k)
/-- text * int -/
def rMulS : R2 := fun x y H Q => ∃ (z : Str) (k : Int), x = .str z ∧ y = .int k ∧ (0 ≤ k ∧ k ≤ 1000 ∧ z.length ≤ 1000) ∧ Q (.str (Txt.mul z k)) H
theorem post_mul {x y : V} (h : OpPost K s .mul false [x, y] H Q) : (rI CMul fun i j => .int (i * j)) x y H Q ∨ rRep x y H Q ∨ rMulS x y H Q := by
  obtain ⟨g, st, ds, Qd, A, r, w, hq⟩ := h
  have w' : mulW ds Qd := w
  unfold mulW at w'
  split at w'
  · rename_i i j
    obtain ⟨a, b, e, r1, r2⟩ := r.two
    cases e
    exact .inl ⟨i, j, r1, r2, w'.1, OpPost.plain A hq w'.2 rfl⟩
  · rename_i es k
    obtain ⟨a, b, e, r1, r2⟩ := r.two
    cases e
    obtain ⟨l, vs, e1, hs, r1⟩ := r1
    obtain ⟨⟨k0, k1, k2⟩, q⟩ := w'
    have hl := r1.length
    refine .inr (.inl ⟨l, k, vs, e1, r2, hs, by omega, by omega, ?_, fun p hp => new_lst A hq q (r1.rep _) hp⟩)
    rw [sizeLine_eq, hl]
    have : k.toNat ≤ 1000 := by omega
    exact Nat.le_trans (Nat.mul_le_mul k2 this) (by decide)
  · rename_i z k
    obtain ⟨a, b, e, r1, r2⟩ := r.two
    cases e
    exact .inr (.inr ⟨z, k, r1, r2, w'.1, OpPost.plain A hq w'.2 rfl⟩)
  · exact w'.elim
theorem post_neg {x : V} (h : OpPost K s .neg false [x] H Q) : rU (fun i => .int (-i)) x H Q := by
  obtain ⟨g, st, ds, Qd, A, r, w, hq⟩ := h
  obtain ⟨i, rfl, q⟩ := int1_inv (show int1 ds _ from w)
  obtain ⟨a, e, r1⟩ := r.one
  cases e
  exact ⟨i, r1, OpPost.plain A hq q rfl⟩

/-! ### == of data -/
mutual
def toP : D → PyData
  | .non => .none
  | .bl b => .bool b
  | .int i => .int i
  | .str x => .str x
  | .tup ds => .tuple (toPs ds)
  | .lst ds => .list (toPs ds)
  | .dic _ _ => .none
  | .obj _ _ => .none
  | .exc _ _ => .none
  | .cell _ => .none
  | .scr _ => .none
def toPs : List D → List PyData
  | [] => []
  | d :: ds => toP d :: toPs ds
end
mutual
theorem Rep.dp {g : Gh} {n : Nat} : ∀ {k : Nat} {d : D} {v : V}, flatD k d = true → Rep K g n H d v → Dp K H v (toP d)
  | _, .non, _, _, h => by cases h; exact .non
  | _, .bl b, _, _, h => by cases h; exact .bl b
  | _, .int i, _, _, h => by cases h; exact .int i
  | _, .str x, _, _, h => by cases h; exact .str x
  | k + 1, .tup ds, _, f, ⟨a, vs, e, h, r⟩ => by
    subst e
    exact .tup h.sq (Reps.dp (k := k) (by simpa only [flatD] using f) r)
  | k + 1, .lst ds, _, f, ⟨a, vs, e, h, r⟩ => by
    subst e
    exact .lst (SqL.of h.1) (Reps.dp (k := k) (by simpa only [flatD] using f) r)
  | 0, .tup ds, _, f, _ => by simp [flatD] at f
  | 0, .lst ds, _, f, _ => by simp [flatD] at f
  | _, .dic _ _, _, f, _ => by simp [flatD] at f
  | _, .cell _, _, f, _ => by simp [flatD] at f
  | _, .scr _, _, f, _ => by simp [flatD] at f
theorem Reps.dp {g : Gh} {n : Nat} : ∀ {k : Nat} {ds : List D} {vs : List V}, flatDs k ds = true → Reps K g n H ds vs → DpAll K H vs (toPs ds)
  | _, [], _, _, h => by cases h; exact .nil
  | k, d :: ds, _, f, ⟨v, r, e, h, t⟩ => by
    subst e
    have f' : flatD k d = true ∧ flatDs k ds = true := by simpa only [flatDs, Bool.and_eq_true] using f
    exact .cons (Rep.dp f'.1 h) (Reps.dp f'.2 t)
end
theorem Vw.dp {g : Gh} {n : Nat} {k : Nat} : ∀ {d : D} {v : V}, flatD k d = true → Vw K g n H d v → Dp K H v (toP d)
  | .non, _, f, h => Rep.dp (g := g) (n := n) (k := k) f h
  | .bl b, _, f, h => Rep.dp (g := g) (n := n) (k := k) f h
  | .int i, _, f, h => Rep.dp (g := g) (n := n) (k := k) f h
  | .str x, _, f, h => Rep.dp (g := g) (n := n) (k := k) f h
  | .tup ds, _, f, ⟨a, vs, e, h, r⟩ => by
    subst e
    cases k with
    | zero => simp [flatD] at f
    | succ k => exact .tup h.sq (Reps.dp (k := k) (by simpa only [flatD] using f) r)
  | .lst ds, _, f, ⟨a, vs, e, h, r⟩ => by
    subst e
    cases k with
    | zero => simp [flatD] at f
    | succ k => exact .lst (SqL.of h) (Reps.dp (k := k) (by simpa only [flatD] using f) r)
  | .dic _ _, _, f, _ => by simp [flatD] at f
  | .obj _ _, _, f, _ => by simp [flatD] at f
  | .exc _ _, _, f, _ => by simp [flatD] at f
  | .cell _, _, f, _ => by simp [flatD] at f
  | .scr _, _, f, _ => by simp [flatD] at f
mutual
theorem flat_lay : ∀ {k : Nat} {d : D}, flatD k d = true → (toP d).canLay0 = true ∧ (toP d).depth ≤ k
  | _, .non, _ => ⟨rfl, Nat.zero_le _⟩
  | _, .bl b, _ => ⟨rfl, Nat.zero_le _⟩
  | _, .int i, _ => ⟨rfl, Nat.zero_le _⟩
  | _, .str x, f => ⟨f, Nat.zero_le _⟩
  | k + 1, .tup ds, f => by
    obtain ⟨h1, h2⟩ := flat_lays (k := k) (ds := ds) (by simpa only [flatD] using f)
    exact ⟨h1, Nat.succ_le_succ h2⟩
  | k + 1, .lst ds, f => by
    obtain ⟨h1, h2⟩ := flat_lays (k := k) (ds := ds) (by simpa only [flatD] using f)
    exact ⟨h1, Nat.succ_le_succ h2⟩
  | 0, .tup ds, f => by simp [flatD] at f
  | 0, .lst ds, f => by simp [flatD] at f
  | _, .dic _ _, f => by simp [flatD] at f
  | _, .obj _ _, f => by simp [flatD] at f
  | _, .exc _ _, f => by simp [flatD] at f
  | _, .cell _, f => by simp [flatD] at f
  | _, .scr _, f => by simp [flatD] at f
theorem flat_lays : ∀ {k : Nat} {ds : List D}, flatDs k ds = true → PyData.canLayAll0 (toPs ds) = true ∧ PyData.depthAll (toPs ds) ≤ k
  | _, [], _ => ⟨rfl, Nat.zero_le _⟩
  | k, d :: ds, f => by
    have f' : flatD k d = true ∧ flatDs k ds = true := by simpa only [flatDs, Bool.and_eq_true] using f
    obtain ⟨h1, h2⟩ := flat_lay f'.1
    obtain ⟨h3, h4⟩ := flat_lays f'.2
    refine ⟨?_, ?_⟩
    · show ((toP d).canLay0 && PyData.canLayAll0 (toPs ds)) = true
      rw [h1, h3]
      rfl
    · show max (toP d).depth (PyData.depthAll (toPs ds)) ≤ k
      exact Nat.max_le.mpr ⟨h2, h4⟩
end
theorem flat_shaped {k : Nat} {d : D} (h : flatD k d = true) (hk : k ≤ 64) : SeqAt.shaped (toP d) = true := by
  obtain ⟨h1, h2⟩ := flat_lay h
  unfold SeqAt.shaped
  rw [h1, decide_eq_true (Nat.le_trans h2 hk)]
  rfl
end
mutual
theorem eqv_eqD : ∀ {k : Nat} {a b : D}, flatD k a = true → flatD k b = true → PyData.eqv (toP a) (toP b) = eqD a b
  | _, .non, b, _, f => by cases b <;> first | rfl | (simp [flatD] at f)
  | _, .bl _, b, _, f => by cases b <;> first | rfl | (simp [flatD] at f)
  | _, .int _, b, _, f => by cases b <;> first | rfl | (simp [flatD] at f)
  | _, .str _, b, _, f => by cases b <;> first | rfl | (simp [flatD] at f)
  | k + 1, .tup as, b, fa, f => by
    cases b with
    | tup bs => exact eqv_eqDs (k := k) (by simpa only [flatD] using fa) (by simpa only [flatD] using f)
    | _ => first | rfl | (simp [flatD] at f)
  | k + 1, .lst as, b, fa, f => by
    cases b with
    | lst bs => exact eqv_eqDs (k := k) (by simpa only [flatD] using fa) (by simpa only [flatD] using f)
    | _ => first | rfl | (simp [flatD] at f)
  | 0, .tup ds, _, f, _ => by simp [flatD] at f
  | 0, .lst ds, _, f, _ => by simp [flatD] at f
  | _, .dic _ _, _, f, _ => by simp [flatD] at f
  | _, .obj _ _, _, f, _ => by simp [flatD] at f
  | _, .exc _ _, _, f, _ => by simp [flatD] at f
  | _, .cell _, _, f, _ => by simp [flatD] at f
  | _, .scr _, _, f, _ => by simp [flatD] at f
theorem eqv_eqDs : ∀ {k : Nat} {as bs : List D}, flatDs k as = true → flatDs k bs = true → PyData.eqvAll (toPs as) (toPs bs) = eqDs as bs
  | _, [], [], _, _ => rfl
  | _, [], _ :: _, _, _ => rfl
  | _, _ :: _, [], _, _ => rfl
  | k, a :: as, b :: bs, fa, fb => by
    have f1 : flatD k a = true ∧ flatDs k as = true := by simpa only [flatDs, Bool.and_eq_true] using fa
    have f2 : flatD k b = true ∧ flatDs k bs = true := by simpa only [flatDs, Bool.and_eq_true] using fb
    show (PyData.eqv (toP a) (toP b) && PyData.eqvAll (toPs as) (toPs bs)) = (eqD a b && eqDs as bs)
    rw [eqv_eqD f1.1 f2.1, eqv_eqDs f1.2 f2.2]
end
section
variable {K : Kc} {s : L2.St} {H : Hp} {Q : VK} {m : Bool}
theorem scal_vw {g : Gh} {n : Nat} : ∀ {a : D} {v : V}, scalD a = true → Vw K g n H a v → Dp K H v (toP a)
  | .non, _, _, h => by cases (show _ = V.non from h); exact .non
  | .bl b, _, _, h => by cases (show _ = V.bl b from h); exact .bl b
  | .int i, _, _, h => by cases (show _ = V.int i from h); exact .int i
  | .str x, _, _, h => by cases (show _ = V.str x from h); exact .str x
/-- two plain values: scal's way, or the way of data -/
theorem scal_eq {g : Gh} {n : Nat} {a b : D} {x y : V} (ha : scalD a = true) (hb : scalD b = true) (h1 : Vw K g n H a x) (h2 : Vw K g n H b y) :
    (scal x y = true ∧ decide (x = y) = eqD a b) ∨ (flatD 50 a = true ∧ flatD 50 b = true) := by
  cases a with
  | non =>
    cases (show x = V.non from h1)
    cases b with
    | non => cases (show y = V.non from h2); exact .inl ⟨rfl, rfl⟩
    | bl k => cases (show y = V.bl k from h2); exact .inl ⟨rfl, rfl⟩
    | int k => cases (show y = V.int k from h2); exact .inl ⟨rfl, rfl⟩
    | str k => cases (show y = V.str k from h2); exact .inl ⟨rfl, rfl⟩
    | _ => cases hb
  | bl i =>
    cases (show x = V.bl i from h1)
    cases b with
    | non => cases (show y = V.non from h2); exact .inl ⟨rfl, rfl⟩
    | bl k => cases (show y = V.bl k from h2); exact .inl ⟨rfl, by rw [dec_bl]; rfl⟩
    | int k => exact .inr ⟨rfl, rfl⟩
    | str k => cases (show y = V.str k from h2); exact .inl ⟨rfl, rfl⟩
    | _ => cases hb
  | int i =>
    cases (show x = V.int i from h1)
    cases b with
    | non => cases (show y = V.non from h2); exact .inl ⟨rfl, rfl⟩
    | bl k => exact .inr ⟨rfl, rfl⟩
    | int k => cases (show y = V.int k from h2); exact .inl ⟨rfl, by rw [dec_int]; rfl⟩
    | str k => cases (show y = V.str k from h2); exact .inl ⟨rfl, rfl⟩
    | _ => cases hb
  | str i =>
    cases (show x = V.str i from h1)
    cases b with
    | non => cases (show y = V.non from h2); exact .inl ⟨rfl, rfl⟩
    | bl k => cases (show y = V.bl k from h2); exact .inl ⟨rfl, rfl⟩
    | int k => cases (show y = V.int k from h2); exact .inl ⟨rfl, rfl⟩
    | str k =>
      cases (show y = V.str k from h2)
      refine .inl ⟨rfl, ?_⟩
      show decide (V.str i = V.str k) = decide (i = k)
      by_cases e : i = k
      · subst e; rw [decide_eq_true rfl, decide_eq_true rfl]
      · rw [decide_eq_false e, decide_eq_false (fun z => e (V.str.inj z))]
    | _ => cases hb
  | _ => cases ha
theorem post_eq {x y : V} (h : OpPost K s .eq false [x, y] H Q) : rEq x y H Q ∨ rEqD K x y H Q := by
  obtain ⟨g, st, ds, Qd, A, r, w, hq⟩ := h
  obtain ⟨a, b, rfl, ok, q⟩ := any2_inv (show any2 ds _ from w)
  obtain ⟨a', b', e, r1, r2⟩ := r.two
  cases e
  have fin : flatD 50 a = true → flatD 50 b = true → rEqD K x y H Q := fun f1 f2 =>
    ⟨_, _, r1.dp f1, r2.dp f2, flat_shaped f1 (by decide), flat_shaped f2 (by decide), by rw [eqv_eqD f1 f2]; exact OpPost.plain A hq q rfl⟩
  unfold eqOk at ok
  rcases Bool.or_eq_true_iff.mp ok with z | z
  · obtain ⟨z1, z2⟩ := Bool.and_eq_true_iff.mp z
    rcases scal_eq z1 z2 r1 r2 with ⟨e1, e2⟩ | ⟨f1, f2⟩
    · exact .inl ⟨e1, by rw [e2]; exact OpPost.plain A hq q rfl⟩
    · exact .inr (fin f1 f2)
  · obtain ⟨z1, z2⟩ := Bool.and_eq_true_iff.mp z
    exact .inr (fin z1 z2)
theorem post_ne {x y : V} (h : OpPost K s .ne false [x, y] H Q) : rNe x y H Q ∨ rNeD K x y H Q := by
  obtain ⟨g, st, ds, Qd, A, r, w, hq⟩ := h
  obtain ⟨a, b, rfl, ok, q⟩ := any2_inv (show any2 ds _ from w)
  obtain ⟨a', b', e, r1, r2⟩ := r.two
  cases e
  have fin : flatD 50 a = true → flatD 50 b = true → rNeD K x y H Q := fun f1 f2 =>
    ⟨_, _, r1.dp f1, r2.dp f2, flat_shaped f1 (by decide), flat_shaped f2 (by decide), by rw [eqv_eqD f1 f2]; exact OpPost.plain A hq q rfl⟩
  unfold eqOk at ok
  rcases Bool.or_eq_true_iff.mp ok with z | z
  · obtain ⟨z1, z2⟩ := Bool.and_eq_true_iff.mp z
    rcases scal_eq z1 z2 r1 r2 with ⟨e1, e2⟩ | ⟨f1, f2⟩
    · exact .inl ⟨e1, by rw [e2]; exact OpPost.plain A hq q rfl⟩
    · exact .inr (fin f1 f2)
  · obtain ⟨z1, z2⟩ := Bool.and_eq_true_iff.mp z
    exact .inr (fin z1 z2)
end
end Mp
namespace Mp
open PySem PySem.Spec L2
section
variable {K : Kc} {s : L2.St} {H : Hp} {Q : VK} {m : Bool}
theorem any_eqv {k : Nat} {a : D} (ha : flatD k a = true) : ∀ {es : List D}, flatDs k es = true → ((toPs es).any fun z => PyData.eqv z (toP a)) = es.any fun z => eqD z a
  | [], _ => rfl
  | e :: es, f => by
    have f1 : flatD k e = true ∧ flatDs k es = true := by simpa only [flatDs, Bool.and_eq_true] using f
    show ((PyData.eqv (toP e) (toP a)) || (toPs es).any fun z => PyData.eqv z (toP a)) = (eqD e a || es.any fun z => eqD z a)
    rw [eqv_eqD f1.1 ha, any_eqv ha f1.2]
/-- in, of tuples -/
def rInTD (K : PySem.W.Frag) : R2 := fun x y H Q => ∃ d ds, Dp K H x d ∧ Dp K H y (.tuple ds) ∧ SeqAt.shaped d = true ∧ SeqAt.shaped (.tuple ds) = true ∧ Q (.bl (ds.any fun z => PyData.eqv z d)) H
def rNotInTD (K : PySem.W.Frag) : R2 := fun x y H Q => ∃ d ds, Dp K H x d ∧ Dp K H y (.tuple ds) ∧ SeqAt.shaped d = true ∧ SeqAt.shaped (.tuple ds) = true ∧ Q (.bl (!ds.any fun z => PyData.eqv z d)) H
theorem op_inTD {X : Cx} (hu : X.A.units + 65 < cLine) : OpR X (compareOp .In) (rInTD X.K) := by
  intro pins s σ H x y v u Q I rx ry h
  obtain ⟨d, ds, hd, he, sd, se, q⟩ := h
  obtain ⟨as, r1⟩ := Dp.reads I d x v hd rx
  obtain ⟨bs, r2⟩ := Dp.reads I (.tuple ds) y u he ry
  exact SeqAt.in_tuple_reads r2 r1 (SeqAt.canLay_of_shaped se) (SeqAt.canLay_of_shaped sd) (PyProof.Rows.room_in_shaped sd hu) ⟨.bl _, H, I, rfl, q⟩
theorem op_notInTD {X : Cx} (hu : X.A.units + 65 < cLine) : OpR X (compareOp .NotIn) (rNotInTD X.K) := by
  intro pins s σ H x y v u Q I rx ry h
  obtain ⟨d, ds, hd, he, sd, se, q⟩ := h
  obtain ⟨as, r1⟩ := Dp.reads I d x v hd rx
  obtain ⟨bs, r2⟩ := Dp.reads I (.tuple ds) y u he ry
  exact SeqAt.notIn_tuple_reads r2 r1 (SeqAt.canLay_of_shaped se) (SeqAt.canLay_of_shaped sd) (PyProof.Rows.room_in_shaped sd hu) ⟨.bl _, H, I, rfl, q⟩
abbrev rInS : R2 := fun x y H Q => ∃ i j, x = .str i ∧ y = .str j ∧ Q (.bl (!(Builtin.Str.occurrences j i 0 j.length 1).isEmpty)) H
abbrev rNotInS : R2 := fun x y H Q => ∃ i j, x = .str i ∧ y = .str j ∧ Q (.bl (!(!(Builtin.Str.occurrences j i 0 j.length 1).isEmpty))) H
theorem post_in {x y : V} (h : OpPost K s .in_ false [x, y] H Q) : rInD K x y H Q ∨ rInTD K x y H Q ∨ rInS x y H Q := by
  obtain ⟨g, st, ds, Qd, A, r, w, hq⟩ := h
  have w' : inW false ds Qd := w
  unfold inW at w'
  split at w'
  · rename_i a es
    obtain ⟨a', b', e, r1, r2⟩ := r.two
    cases e
    obtain ⟨⟨f1, f2⟩, q⟩ := w'
    have f3 : flatD 51 (.lst es) = true := f2
    refine .inl ⟨_, toPs es, r1.dp f1, r2.dp f3, flat_shaped f1 (by decide), flat_shaped f3 (by decide), ?_⟩
    rw [any_eqv f1 f2]
    exact OpPost.plain A hq q rfl
  · rename_i a es
    obtain ⟨a', b', e, r1, r2⟩ := r.two
    cases e
    obtain ⟨⟨f1, f2⟩, q⟩ := w'
    have f3 : flatD 51 (.tup es) = true := f2
    refine .inr (.inl ⟨_, toPs es, r1.dp f1, r2.dp f3, flat_shaped f1 (by decide), flat_shaped f3 (by decide), ?_⟩)
    rw [any_eqv f1 f2]
    exact OpPost.plain A hq q rfl
  · rename_i z u
    obtain ⟨a', b', e, r1, r2⟩ := r.two
    cases e
    exact .inr (.inr ⟨z, u, r1, r2, OpPost.plain A hq w' rfl⟩)
  · exact w'.elim
theorem post_notIn {x y : V} (h : OpPost K s .notIn false [x, y] H Q) : rNotInD K x y H Q ∨ rNotInTD K x y H Q ∨ rNotInS x y H Q := by
  obtain ⟨g, st, ds, Qd, A, r, w, hq⟩ := h
  have w' : inW true ds Qd := w
  unfold inW at w'
  split at w'
  · rename_i a es
    obtain ⟨a', b', e, r1, r2⟩ := r.two
    cases e
    obtain ⟨⟨f1, f2⟩, q⟩ := w'
    have f3 : flatD 51 (.lst es) = true := f2
    refine .inl ⟨_, toPs es, r1.dp f1, r2.dp f3, flat_shaped f1 (by decide), flat_shaped f3 (by decide), ?_⟩
    rw [any_eqv f1 f2]
    exact OpPost.plain A hq q rfl
  · rename_i a es
    obtain ⟨a', b', e, r1, r2⟩ := r.two
    cases e
    obtain ⟨⟨f1, f2⟩, q⟩ := w'
    have f3 : flatD 51 (.tup es) = true := f2
    refine .inr (.inl ⟨_, toPs es, r1.dp f1, r2.dp f3, flat_shaped f1 (by decide), flat_shaped f3 (by decide), ?_⟩)
    rw [any_eqv f1 f2]
    exact OpPost.plain A hq q rfl
  · rename_i z u
    obtain ⟨a', b', e, r1, r2⟩ := r.two
    cases e
    exact .inr (.inr ⟨z, u, r1, r2, OpPost.plain A hq w' rfl⟩)
  · exact w'.elim
abbrev rAddS : R2 := fun x y H Q => ∃ i j, x = .str i ∧ y = .str j ∧ i.length + j.length ≤ sizeLine ∧ Q (.str (i ++ j)) H
/-- + of lists, one of them may be a new one -/
theorem post_add {x y : V} (h : OpPost K s .add m [x, y] H Q) (hm : m = false) : (rI0 fun i j => .int (i + j)) x y H Q ∨ rAddS x y H Q ∨ rCat x y H Q ∨ rCatA K x y H Q := by
  subst hm
  obtain ⟨g, st, ds, Qd, A, r, w, hq⟩ := h
  have w' : addW ds Qd := w
  unfold addW at w'
  split at w'
  · obtain ⟨a', b', e, r1, r2⟩ := r.two
    cases e
    exact .inl ⟨_, _, r1, r2, OpPost.plain A hq w' rfl⟩
  · obtain ⟨a', b', e, r1, r2⟩ := r.two
    cases e
    exact .inr (.inl ⟨_, _, r1, r2, w'.1, OpPost.plain A hq w'.2 rfl⟩)
  · obtain ⟨a', b', e, r1, r2⟩ := r.two
    cases e
    obtain ⟨l, vs, e1, h1, q1⟩ := r1
    obtain ⟨b, ws, e2, h2, q2⟩ := r2
    exact .inr (.inr (.inl ⟨l, b, vs, ws, e1, e2, h1, h2, by rw [q1.length, q2.length]; exact w'.1, fun p hp => new_lst A hq w'.2 (q1.append q2) hp⟩))
  · rename_i es fs
    obtain ⟨a', b', e, r1, r2⟩ := r.two
    cases e
    obtain ⟨hl, q⟩ := w'
    have s1 := r1
    have s2 := r2
    obtain ⟨l, vs, e1, h1, q1⟩ := r1
    obtain ⟨b, ws, e2, h2, q2⟩ := r2
    refine .inr (.inr (.inr ⟨l, b, vs, ws, e1, e2, h1.sq, h2.sq, by rw [q1.length, q2.length]; exact hl, fun z => ?_, fun _ z => ?_, fun _ _ p hp => new_tup A hq q (q1.append q2) hp⟩))
    · subst z
      have e0 : es = [] := List.eq_nil_of_length_eq_zero (by rw [← q1.length]; rfl)
      subst e0
      rw [← e2]
      exact OpPost.plain A hq q s2
    · subst z
      have e0 : fs = [] := List.eq_nil_of_length_eq_zero (by rw [← q2.length]; rfl)
      subst e0
      rw [List.append_nil] at q
      rw [← e1]
      exact OpPost.plain A hq q s1
  · exact w'.elim
theorem post_len {vs : List V} (h : OpPost K s .len false vs H Q) : ∃ x n, vs = [x] ∧ LenV K x H n ∧ Q (.int n) H := by
  obtain ⟨g, st, ds, Qd, A, r, w, hq⟩ := h
  obtain ⟨a, rfl, w2⟩ := any1_inv (show any1 ds _ from w)
  obtain ⟨x, rfl, r1⟩ := r.to1
  unfold lenW at w2
  split at w2
  · obtain ⟨l, vs, e1, hs, r1⟩ := r1
    subst e1
    exact ⟨_, _, rfl, .inl ⟨vs, SqL.of hs, rfl⟩, OpPost.plain A hq w2 (by rw [r1.length]; rfl)⟩
  · obtain ⟨l, vs, e1, hs, r1⟩ := r1
    subst e1
    exact ⟨_, _, rfl, .inl ⟨vs, hs.sq, rfl⟩, OpPost.plain A hq w2 (by rw [r1.length]; rfl)⟩
  · obtain ⟨l, vs, e1, hs, r1⟩ := r1
    subst e1
    exact ⟨_, _, rfl, .inr ⟨vs, hs.sq, rfl⟩, OpPost.plain A hq w2 (by rw [r1.length]; rfl)⟩
  · rename_i z
    have e : x = .str z := r1
    subst e
    exact ⟨_, _, rfl, ⟨w2.1, rfl⟩, OpPost.plain A hq w2.2 rfl⟩
  · exact w2.elim
theorem post_abs {vs : List V} (h : OpPost K s .abs false vs H Q) : ∃ i, vs = [.int i] ∧ Q (.int (if i < 0 then -i else i)) H := by
  obtain ⟨g, st, ds, Qd, A, r, w, hq⟩ := h
  obtain ⟨i, rfl, w⟩ := int1_inv (show int1 ds _ from w)
  obtain ⟨x, rfl, r1⟩ := r.to1
  have e : x = .int i := r1
  subst e
  exact ⟨i, rfl, OpPost.plain A hq w rfl⟩
theorem post_max2 {vs : List V} (h : OpPost K s .max2 false vs H Q) : ∃ i j, vs = [.int i, .int j] ∧ Q (.int (if j > i then j else i)) H := by
  obtain ⟨g, st, ds, Qd, A, r, w, hq⟩ := h
  obtain ⟨i, j, rfl, w⟩ := int2_inv (show int2 ds _ from w)
  obtain ⟨x, y, rfl, r1, r2⟩ := r.to2
  have e : x = .int i := r1
  have e2 : y = .int j := r2
  subst e e2
  exact ⟨i, j, rfl, OpPost.plain A hq w rfl⟩
theorem post_min2 {vs : List V} (h : OpPost K s .min2 false vs H Q) : ∃ i j, vs = [.int i, .int j] ∧ Q (.int (if j < i then j else i)) H := by
  obtain ⟨g, st, ds, Qd, A, r, w, hq⟩ := h
  obtain ⟨i, j, rfl, w⟩ := int2_inv (show int2 ds _ from w)
  obtain ⟨x, y, rfl, r1, r2⟩ := r.to2
  have e : x = .int i := r1
  have e2 : y = .int j := r2
  subst e e2
  exact ⟨i, j, rfl, OpPost.plain A hq w rfl⟩
theorem post_toInt {vs : List V} (h : OpPost K s .toInt false vs H Q) : (∃ i, vs = [.int i] ∧ Q (.int i) H) ∨ ∃ k, vs = [.bl k] ∧ Q (.int (if k then 1 else 0)) H := by
  obtain ⟨g, st, ds, Qd, A, r, w, hq⟩ := h
  obtain ⟨a, rfl, w2⟩ := any1_inv (show any1 ds _ from w)
  obtain ⟨x, rfl, r1⟩ := r.to1
  unfold toIntW at w2
  split at w2
  · rename_i i
    have e : x = .int i := r1
    subst e
    exact .inl ⟨i, rfl, OpPost.plain A hq w2 rfl⟩
  · rename_i k
    have e : x = .bl k := r1
    subst e
    exact .inr ⟨k, rfl, OpPost.plain A hq w2 rfl⟩
  · exact w2.elim
theorem post_toStr {vs : List V} (h : OpPost K s .toStr false vs H Q) : ∃ i, vs = [.int i] ∧ i.natAbs.log2 < 1920 ∧ Q (.str (toString i)) H := by
  obtain ⟨g, st, ds, Qd, A, r, w, hq⟩ := h
  obtain ⟨i, rfl, c, w⟩ := int1_inv (show int1 ds _ from w)
  obtain ⟨x, rfl, r1⟩ := r.to1
  have e : x = .int i := r1
  subst e
  exact ⟨i, rfl, c, OpPost.plain A hq w rfl⟩
theorem Vw.seq {g : Gh} {n : Nat} {a : D} {x : V} {es : List D} (r : Vw K g n H a x) (e : seqD a = some es) : ∃ p vs, x = .ref p ∧ (SqL K H p vs ∨ SqT K H p vs) ∧ Reps K g n H es vs := by
  cases a with
  | lst ds => cases e; obtain ⟨p, vs, e1, hs, r1⟩ := r; exact ⟨p, vs, e1, .inl (SqL.of hs), r1⟩
  | tup ds => cases e; obtain ⟨p, vs, e1, hs, r1⟩ := r; exact ⟨p, vs, e1, .inr hs.sq, r1⟩
  | scr ds => cases e; obtain ⟨p, vs, e1, hs, r1⟩ := r; exact ⟨p, vs, e1, .inl hs.sq, r1⟩
  | _ => cases e
theorem Reps.chars {g : Gh} {n : Nat} (cs : List Nat) : Reps K g n H (cs.map fun c => D.str ⟨#[c]⟩) (cs.map fun c => V.str ⟨#[c]⟩) := by
  induction cs with
  | nil => rfl
  | cons c cs ih => exact ⟨_, _, rfl, rfl, ih⟩
theorem post_toList {vs : List V} (h : OpPost K s .toList m vs H Q) : (∃ p ys, vs = [.ref p] ∧ (SqL K H p ys ∨ SqT K H p ys) ∧ ∀ l, H l = none → Q (.ref l) (upd H l (.lst ys))) ∨
    ∃ z : Str, vs = [.str z] ∧ z.length ≤ sizeLine ∧ ∀ l, H l = none → Q (.ref l) (upd H l (.lst (z.cps.toList.map fun c => V.str ⟨#[c]⟩))) := by
  obtain ⟨g, st, ds, Qd, A, r, w, hq⟩ := h
  obtain ⟨a, rfl, w2⟩ := any1_inv (show any1 ds _ from w)
  obtain ⟨x, rfl, r1⟩ := r.to1
  clear w
  have w := w2
  unfold toListW at w
  split at w
  · rename_i z
    have e : x = .str z := r1
    subst e
    exact .inr ⟨z, rfl, w.1, fun l hl => new_lst A hq w.2 (Reps.chars _) hl⟩
  · obtain ⟨es, ez, w⟩ := w
    obtain ⟨p, ys, rfl, hs, r2⟩ := r1.seq ez
    exact .inl ⟨p, ys, rfl, hs, fun l hl => new_lst A hq w r2 hl⟩
theorem post_toTuple {vs : List V} (h : OpPost K s .toTuple false vs H Q) : ∃ p ys, vs = [.ref p] ∧ ((SqL K H p ys ∧ ∀ l, H l = none → Q (.ref l) (upd H l (.tup ys))) ∨ (SqT K H p ys ∧ Q (.ref p) H)) := by
  obtain ⟨g, st, ds, Qd, A, r, w, hq⟩ := h
  obtain ⟨a, rfl, es, ez, w2⟩ := any1_inv (show any1 ds _ from w)
  obtain ⟨x, rfl, r1⟩ := r.to1
  clear w
  have w := w2
  cases a with
  | lst ds => cases ez; obtain ⟨p, vs, e1, hs, r1⟩ := r1; subst e1; exact ⟨p, vs, rfl, .inl ⟨SqL.of hs, fun l hl => new_tup A hq w r1 hl⟩⟩
  | tup ds => cases ez; have r2 := r1; obtain ⟨p, vs, e1, hs, r1⟩ := r1; subst e1; exact ⟨p, vs, rfl, .inr ⟨hs.sq, OpPost.plain A hq w r2⟩⟩
  | scr ds => cases ez; obtain ⟨p, vs, e1, hs, r1⟩ := r1; subst e1; exact ⟨p, vs, rfl, .inl ⟨hs.sq, fun l hl => new_tup A hq w r1 hl⟩⟩
  | _ => cases ez
theorem atI_rep {g : Gh} {n : Nat} {es : List D} {vs : List V} {i : Int} {d : D} (r : Reps K g n H es vs) (h : atI es i = some d) : ∃ v, atI vs i = some v ∧ Rep K g n H d v := by
  unfold atI at h ⊢
  rw [r.length]
  cases q : ixN es.length i with
  | none => rw [q] at h; cases h
  | some j =>
    rw [q] at h
    obtain ⟨v, e, r'⟩ := r.get h
    exact ⟨v, e, r'⟩
theorem post_item {x y : V} (h : OpPost K s .item false [x, y] H Q) : rIx K x y H Q := by
  obtain ⟨g, st, ds, Qd, A, r, w, hq⟩ := h
  have w' : itemW ds Qd := w
  unfold itemW at w'
  split at w'
  · rename_i z i
    obtain ⟨a', b', e, r1, r2⟩ := r.two
    cases e
    obtain ⟨c, hl, ha, q⟩ := w'
    exact .inr (.inr ⟨z, i, c, r1, r2, hl, ha, OpPost.plain A hq q rfl⟩)
  · rename_i a i _
    obtain ⟨a', b', e, r1, r2⟩ := r.two
    cases e
    obtain ⟨es, d, ez, ha, q⟩ := w'
    obtain ⟨p, vs, rfl, hs, r3⟩ := r1.seq ez
    obtain ⟨v, hv, rv⟩ := atI_rep r3 ha
    rcases hs with hs | hs
    · exact .inl ⟨p, vs, i, v, rfl, r2, hs, hv, OpPost.plain A hq q rv⟩
    · exact .inr (.inl ⟨p, vs, i, v, rfl, r2, hs, hv, OpPost.plain A hq q rv⟩)
  · exact w'.elim
/-! ### isinstance -/
def tyName : Ty → String
  | .int => "int" | .bool => "bool" | .str => "str" | .list => "list" | .tuple => "tuple" | .dict => "dict" | .own _ => ""
def isOwn : Ty → Bool
  | .own _ => true
  | _ => false
def dTy : D → String
  | .non => "NoneType" | .bl _ => "bool" | .int _ => "int" | .str _ => "str" | .tup _ => "tuple" | .lst _ => "list" | .dic _ _ => "dict" | _ => ""
theorem kit_all : ∀ (a : D) (t : Ty), tyOk a = true → (∀ c ds, a ≠ .obj c ds) → isOwn t = false → kitB (dTy a) (tyName t) = some (tyD a t)
  | .non, .int, _, _, _ => (by decide +kernel : kitB "NoneType" "int" = some false)
  | .non, .bool, _, _, _ => (by decide +kernel : kitB "NoneType" "bool" = some false)
  | .non, .str, _, _, _ => (by decide +kernel : kitB "NoneType" "str" = some false)
  | .non, .list, _, _, _ => (by decide +kernel : kitB "NoneType" "list" = some false)
  | .non, .tuple, _, _, _ => (by decide +kernel : kitB "NoneType" "tuple" = some false)
  | .non, .dict, _, _, _ => (by decide +kernel : kitB "NoneType" "dict" = some false)
  | .bl _, .int, _, _, _ => (by decide +kernel : kitB "bool" "int" = some true)
  | .bl _, .bool, _, _, _ => (by decide +kernel : kitB "bool" "bool" = some true)
  | .bl _, .str, _, _, _ => (by decide +kernel : kitB "bool" "str" = some false)
  | .bl _, .list, _, _, _ => (by decide +kernel : kitB "bool" "list" = some false)
  | .bl _, .tuple, _, _, _ => (by decide +kernel : kitB "bool" "tuple" = some false)
  | .bl _, .dict, _, _, _ => (by decide +kernel : kitB "bool" "dict" = some false)
  | .int _, .int, _, _, _ => (by decide +kernel : kitB "int" "int" = some true)
  | .int _, .bool, _, _, _ => (by decide +kernel : kitB "int" "bool" = some false)
  | .int _, .str, _, _, _ => (by decide +kernel : kitB "int" "str" = some false)
  | .int _, .list, _, _, _ => (by decide +kernel : kitB "int" "list" = some false)
  | .int _, .tuple, _, _, _ => (by decide +kernel : kitB "int" "tuple" = some false)
  | .int _, .dict, _, _, _ => (by decide +kernel : kitB "int" "dict" = some false)
  | .str _, .int, _, _, _ => (by decide +kernel : kitB "str" "int" = some false)
  | .str _, .bool, _, _, _ => (by decide +kernel : kitB "str" "bool" = some false)
  | .str _, .str, _, _, _ => (by decide +kernel : kitB "str" "str" = some true)
  | .str _, .list, _, _, _ => (by decide +kernel : kitB "str" "list" = some false)
  | .str _, .tuple, _, _, _ => (by decide +kernel : kitB "str" "tuple" = some false)
  | .str _, .dict, _, _, _ => (by decide +kernel : kitB "str" "dict" = some false)
  | .tup _, .int, _, _, _ => (by decide +kernel : kitB "tuple" "int" = some false)
  | .tup _, .bool, _, _, _ => (by decide +kernel : kitB "tuple" "bool" = some false)
  | .tup _, .str, _, _, _ => (by decide +kernel : kitB "tuple" "str" = some false)
  | .tup _, .list, _, _, _ => (by decide +kernel : kitB "tuple" "list" = some false)
  | .tup _, .tuple, _, _, _ => (by decide +kernel : kitB "tuple" "tuple" = some true)
  | .tup _, .dict, _, _, _ => (by decide +kernel : kitB "tuple" "dict" = some false)
  | .lst _, .int, _, _, _ => (by decide +kernel : kitB "list" "int" = some false)
  | .lst _, .bool, _, _, _ => (by decide +kernel : kitB "list" "bool" = some false)
  | .lst _, .str, _, _, _ => (by decide +kernel : kitB "list" "str" = some false)
  | .lst _, .list, _, _, _ => (by decide +kernel : kitB "list" "list" = some true)
  | .lst _, .tuple, _, _, _ => (by decide +kernel : kitB "list" "tuple" = some false)
  | .lst _, .dict, _, _, _ => (by decide +kernel : kitB "list" "dict" = some false)
  | .dic _ _, .int, _, _, _ => (by decide +kernel : kitB "dict" "int" = some false)
  | .dic _ _, .bool, _, _, _ => (by decide +kernel : kitB "dict" "bool" = some false)
  | .dic _ _, .str, _, _, _ => (by decide +kernel : kitB "dict" "str" = some false)
  | .dic _ _, .list, _, _, _ => (by decide +kernel : kitB "dict" "list" = some false)
  | .dic _ _, .tuple, _, _, _ => (by decide +kernel : kitB "dict" "tuple" = some false)
  | .dic _ _, .dict, _, _, _ => (by decide +kernel : kitB "dict" "dict" = some true)
  | .obj c ds, _, _, h, _ => absurd rfl (h c ds)
/-- a class of the package, its attributes: what reading and storing lean on -/
def clsB (K : PySem.W.Frag) (C : Addr) : Bool := PySem.W.plainGet K C Str.empty && PySem.W.hasDictIn K C && PySem.W.plainOver K C && He.eqO (PySem.W.findIn K (.ref C) "__setattr__") (some (some (.builtin "object.__setattr__"))) &&
  He.eqO (PySem.W.findIn K (.ref C) "__class__") (some (some (.builtin "object.__class__"))) && He.eqO (PySem.W.specialIn K (.builtin "object.__class__") "__get__") (some (some (.builtin "getset_descriptor.__get__"))) &&
  decide (PySem.W.takesIn K (.builtin "object.__class__") = some true) && decide (PySem.W.mroIn K C (.type "object") = some true)
theorem clsB_ok {K : PySem.W.Frag} {C : Addr} (h : clsB K C = true) : Cls K C ∧ PySem.W.findIn K (.ref C) "__class__" = some (some (.builtin "object.__class__")) ∧ PySem.W.specialIn K (.builtin "object.__class__") "__get__" = some (some (.builtin "getset_descriptor.__get__")) ∧
    PySem.W.takesIn K (.builtin "object.__class__") = some true ∧ PySem.W.mroIn K C (.type "object") = some true := by
  unfold clsB at h
  simp only [Bool.and_eq_true, decide_eq_true_eq] at h
  obtain ⟨⟨⟨⟨⟨⟨⟨h1, h2⟩, h3⟩, h4⟩, h5⟩, h6⟩, h7⟩, h8⟩ := h
  exact ⟨⟨h1, h2, h3, He.eqO_ok h4⟩, He.eqO_ok h5, He.eqO_ok h6, h7, h8⟩
/-- what isinstance says of the package's classes -/
def KitB (K : PySem.W.Frag) : Bool := (List.range clsTab.length).all fun c => !isKnown K c ||
  (clsB K (He.ga K (clsN c)) && (fldsOf c).all (fun f => He.eqO (PySem.W.findIn K (.ref (He.ga K (clsN c))) f) (some none)) && ["int", "bool", "str", "list", "tuple", "dict"].all (fun t => decide (PySem.W.kitOne K (.ref (He.ga K (clsN c))) (.type t) = some false)) &&
   ["NoneType", "bool", "int", "str", "tuple", "list", "dict"].all (fun t => decide (PySem.W.kitOne K (.type t) (.ref (He.ga K (clsN c))) = some false)) &&
   (List.range clsTab.length).all (fun d => !isKnown K d || decide (PySem.W.kitOne K (.ref (He.ga K (clsN c))) (.ref (He.ga K (clsN d))) = some (c == d))))
theorem known_lt {K : PySem.W.Frag} {c : Nat} (h : isKnown K c = true) : c < clsTab.length := by
  unfold isKnown at h
  simp only [Bool.and_eq_true, decide_eq_true_eq] at h
  exact h.1
theorem KitB.at {K : PySem.W.Frag} {c : Nat} (k : KitB K = true) (hc : isKnown K c = true) : clsB K (He.ga K (clsN c)) = true ∧ (∀ f ∈ fldsOf c, NoAttr K (He.ga K (clsN c)) f) ∧
    (∀ t ∈ ["int", "bool", "str", "list", "tuple", "dict"], PySem.W.kitOne K (.ref (He.ga K (clsN c))) (.type t) = some false) ∧
    (∀ t ∈ ["NoneType", "bool", "int", "str", "tuple", "list", "dict"], PySem.W.kitOne K (.type t) (.ref (He.ga K (clsN c))) = some false) ∧
    (∀ d, isKnown K d = true → PySem.W.kitOne K (.ref (He.ga K (clsN c))) (.ref (He.ga K (clsN d))) = some (c == d)) := by
  have h := List.all_eq_true.mp k c (List.mem_range.mpr (known_lt hc))
  rw [hc] at h
  simp only [Bool.not_true, Bool.false_or, Bool.and_eq_true] at h
  obtain ⟨⟨⟨⟨h01, h02⟩, h1⟩, h2⟩, h3⟩ := h
  refine ⟨h01, fun f hf => He.eqO_ok (List.all_eq_true.mp h02 f hf), fun t ht => of_decide_eq_true (List.all_eq_true.mp h1 t ht), fun t ht => of_decide_eq_true (List.all_eq_true.mp h2 t ht), fun d hd => ?_⟩
  have q := List.all_eq_true.mp h3 d (List.mem_range.mpr (known_lt hd))
  rw [hd] at q
  simpa using q
def tyVal (K : Kc) : Ty → Value
  | .own c => .ref (CL K c)
  | t => .type (tyName t)
def tyKn (K : Kc) : Ty → Bool
  | .own c => isKnown K.K c
  | _ => true
theorem dTy_mem : ∀ {a : D}, tyOk a = true → (∀ c ds, a ≠ .obj c ds) → dTy a ∈ ["NoneType", "bool", "int", "str", "tuple", "list", "dict"]
  | .non, _, _ => by simp [dTy]
  | .bl _, _, _ => by simp [dTy]
  | .int _, _, _ => by simp [dTy]
  | .str _, _, _ => by simp [dTy]
  | .tup _, _, _ => by simp [dTy]
  | .lst _, _, _ => by simp [dTy]
  | .dic _ _, _, _ => by simp [dTy]
  | .obj c ds, _, h => absurd rfl (h c ds)
theorem Vw.ty {g : Gh} {n : Nat} : ∀ {a : D} {x : V}, tyOk a = true → (∀ c ds, a ≠ .obj c ds) → Vw K g n H a x → TyX K H x (.type (dTy a))
  | .non, _, _, _, h => by cases (show _ = V.non from h); exact .base .non
  | .bl b, _, _, _, h => by cases (show _ = V.bl b from h); exact .base (.bl b)
  | .int i, _, _, _, h => by cases (show _ = V.int i from h); exact .base (.int i)
  | .str z, _, _, _, h => by cases (show _ = V.str z from h); exact .base (.str z)
  | .lst ds, _, _, _, ⟨a, vs, e, h, _⟩ => by subst e; exact .base (.lst h)
  | .tup ds, _, _, _, ⟨a, vs, e, h, _⟩ => by
    subst e
    rcases h with ⟨h | ⟨o, h⟩, _⟩ | ⟨o, its, n, h1, h2, _⟩
    · exact .base (.tup h)
    · exact .fTuple h
    · exact .kTuple h1 h2
  | .dic _ _, _, _, _, ⟨a, kk, ws, e, ⟨kvs, h, _⟩, _⟩ => by subst e; exact .base (.dK h)
  | .obj c ds, _, _, h, _ => absurd rfl (h c ds)
/-- what isinstance finds -/
theorem Vw.kit {g : Gh} {n : Nat} (k : KitB K.K = true) {a : D} {x : V} (ok : tyOk a = true) (r : Vw K g n H a x) : ∃ tv, TyX K H x tv ∧ ∀ t, tyKn K t = true → PySem.W.kitOne K tv (tyVal K t) = some (tyD a t) := by
  by_cases ho : ∃ c ds, a = .obj c ds
  · obtain ⟨c, ds, rfl⟩ := ho
    obtain ⟨p, vs, e, ⟨hc, hl, dx, h⟩, _⟩ := r
    subst e
    obtain ⟨k0, k01, k1, k2, k3⟩ := KitB.at k hc
    obtain ⟨c1, c2, c3, c4, c5⟩ := clsB_ok k0
    refine ⟨.ref (CL K c), .base (.ins h c1 c2 c3 c4 c5), fun t ht => ?_⟩
    cases t with
    | own d => exact k3 d ht
    | int => exact k1 _ (by simp [tyName])
    | bool => exact k1 _ (by simp [tyName])
    | str => exact k1 _ (by simp [tyName])
    | list => exact k1 _ (by simp [tyName])
    | tuple => exact k1 _ (by simp [tyName])
    | dict => exact k1 _ (by simp [tyName])
  · have no : ∀ c ds, a ≠ .obj c ds := fun c ds e => ho ⟨c, ds, e⟩
    refine ⟨_, r.ty ok no, fun t ht => ?_⟩
    cases t with
    | own d =>
      have e : tyD a (.own d) = false := by cases a <;> first | rfl | exact absurd rfl (no _ _)
      rw [e]
      exact (KitB.at k ht).2.2.2.1 _ (dTy_mem ok no)
    | int => exact kit_ty (kit_all a _ ok no rfl)
    | bool => exact kit_ty (kit_all a _ ok no rfl)
    | str => exact kit_ty (kit_all a _ ok no rfl)
    | list => exact kit_ty (kit_all a _ ok no rfl)
    | tuple => exact kit_ty (kit_all a _ ok no rfl)
    | dict => exact kit_ty (kit_all a _ ok no rfl)
/-- the class as it is written -/
def tyV' (K : Kc) : Ty → V
  | .own c => .ref (CL K c)
  | t => .ty (tyName t)
theorem clsV_ty {K : Kc} (t : Ty) : ClsV (tyV' K t) (tyVal K t) := by
  cases t with
  | own c => exact .own _
  | _ => exact .ty _
theorem post_isi1 {x : V} {t : Ty} {tp : Bool} (k : KitB K.K = true) (ht : tyKn K t = true) (h : OpPost K s (.isi [t] tp) false [x] H Q) : rIsi K [x, tyV' K t] H Q := by
  obtain ⟨g, st, ds, Qd, A, r, w, hq⟩ := h
  obtain ⟨a, rfl, ok, w2⟩ := any1_inv (show any1 ds _ from w)
  obtain ⟨x', e, r1⟩ := r.to1
  cases e
  obtain ⟨tv, h1, h2⟩ := r1.kit k ok
  refine ⟨x, _, _, _, tyD a t, rfl, clsV_ty t, h1, h2 t ht, OpPost.plain A hq (d := .bl (tyD a t)) ?_ rfl⟩
  have e2 : ([t].any (tyD a)) = tyD a t := by simp
  rw [e2] at w2
  exact w2
theorem kitAny_of {K : Kc} {a : D} {tv : Value} : ∀ {ts : List Ty}, (∀ t ∈ ts, PySem.W.kitOne K.K tv (tyVal K t) = some (tyD a t)) → PySem.W.kitAny K.K tv (ts.map (tyVal K)) = some (ts.any (tyD a))
  | [], _ => rfl
  | t :: ts, h => by
    have h1 := h t (List.mem_cons_self)
    have h2 := kitAny_of (ts := ts) fun u hu => h u (List.mem_cons_of_mem _ hu)
    show (match PySem.W.kitOne K.K tv (tyVal K t) with
      | some true => some true
      | some false => PySem.W.kitAny K.K tv (ts.map (tyVal K))
      | none => none) = _
    rw [h1]
    cases e : tyD a t with
    | true => simp [e]
    | false => simp [e, h2]
theorem clsV_tys {K : Kc} : ∀ ts : List Ty, Paired ClsV (ts.map (tyV' K)) (ts.map (tyVal K))
  | [] => .nil
  | t :: ts => .cons (clsV_ty t) (clsV_tys ts)
theorem post_isiT {x : V} {ts : List Ty} {tp : Bool} (k : KitB K.K = true) (ht : ∀ t ∈ ts, tyKn K t = true) (h : OpPost K s (.isi ts tp) false [x] H Q) (p : Addr) (hp : H p = none) : rIsiT K [x, .ref p] (upd H p (.tup (ts.map (tyV' K)))) Q := by
  obtain ⟨g, st, ds, Qd, A, r, w, hq⟩ := h
  obtain ⟨a, rfl, ok, w2⟩ := any1_inv (show any1 ds _ from w)
  obtain ⟨x', e, r1⟩ := r.to1
  cases e
  obtain ⟨A', ex⟩ := A.alloc hp (.tup (ts.map (tyV' K)))
  have r2 : Vw K g st.h.length (upd H p (.tup (ts.map (tyV' K)))) a x := by
    have ke : ∀ b o, H b = some o → upd H p (.tup (ts.map (tyV' K))) b = some o := fun b o h => by rw [upd_ne (ne_of_none h hp)]; exact h
    have kk := ex.kp A.mw
    cases a with
    | lst ds => obtain ⟨q, vs, e, h, r⟩ := r1; exact ⟨q, vs, e, ke _ _ h, r.kp kk⟩
    | dic ks es => obtain ⟨q, kk', ws, e, ⟨kvs, h, e1, e2⟩, r1, r2⟩ := r1; exact ⟨q, kk', ws, e, ⟨kvs, ke _ _ h, e1, e2⟩, r1.kp kk, r2.kp kk⟩
    | obj c ds => obtain ⟨q, vs, e, ⟨h1, h2, dx, h⟩, r⟩ := r1; exact ⟨q, vs, e, ⟨h1, h2, dx, ke _ _ h⟩, r.kp kk⟩
    | non => exact r1
    | bl b => exact r1
    | int b => exact r1
    | str b => exact r1
    | tup ds => exact Rep.kp kk r1
    | _ => cases ok
  obtain ⟨tv, h1, h2⟩ := r2.kit k ok
  exact ⟨x, p, _, tv, ts.map (tyVal K), _, rfl, upd_same, clsV_tys ts, h1, kitAny_of fun t z => h2 t (ht t z), hq _ _ _ _ w2 ex A' rfl⟩
/-! ### slices, texts, fields -/
theorem Reps.take {g : Gh} {n : Nat} : ∀ {ds : List D} {vs : List V} (k : Nat), Reps K g n H ds vs → Reps K g n H (ds.take k) (vs.take k)
  | [], _, k, h => by cases h; simp [Reps]
  | _ :: _, _, 0, h => by simp [Reps]
  | _ :: _, _, k + 1, ⟨v, r, e, h, t⟩ => by subst e; exact ⟨v, _, rfl, h, Reps.take k t⟩
theorem Reps.drop {g : Gh} {n : Nat} : ∀ {ds : List D} {vs : List V} (k : Nat), Reps K g n H ds vs → Reps K g n H (ds.drop k) (vs.drop k)
  | [], _, k, h => by cases h; simp [Reps]
  | _ :: _, _, 0, h => by simpa using h
  | _ :: _, _, k + 1, ⟨v, r, e, h, t⟩ => by subst e; exact Reps.drop k t
theorem Reps.cut {g : Gh} {n : Nat} {ds : List D} {vs : List V} (h : Reps K g n H ds vs) (lo hi : Option Int) : Reps K g n H (cutL ds lo hi) (cutV vs lo hi) := by
  unfold cutL cutV
  rw [h.length]
  exact (h.drop _).take _
theorem cutL_all {α : Type} {xs : List α} {lo hi : Option Int} (h : HT.sIx xs.length 0 lo = 0 ∧ HT.sIx xs.length xs.length hi = xs.length) : cutL xs lo hi = xs := by
  unfold cutL
  rw [h.1, h.2]
  simp
/-- a slice of a list, a tuple, a text -/
def rSl3 (K : PySem.W.Frag) : V → Option Int → Option Int → Hp → VK → Prop := fun x lo hi H Q => rSlL K x lo hi H Q ∨ rSlA K x lo hi H Q ∨ rSlS x lo hi H Q
theorem cut_post {g : Gh} {st : Stt} {a : D} {x : V} {lo hi : Option Int} {Qd : D → Prop} (A : Abs K g st s H) (r : Vw K g st.h.length H a x) (w : cutW a lo hi Qd)
    (hq : ∀ d v g' H', Qd d → Ext g st.h.length H g' st.h.length H' → Abs K g' st s H' → RepM K g' st s H' false d v → Q v H') : rSl3 K x lo hi H Q := by
  unfold cutW at w
  split at w
  · obtain ⟨p, vs, e, h, q⟩ := r
    exact .inl ⟨p, vs, e, SqL.of h, fun l hl => new_lst A hq w (q.cut lo hi) hl⟩
  · have r2 := r
    obtain ⟨p, vs, e, h, q⟩ := r
    refine .inr (.inl ⟨p, vs, e, h.sq, fun z => ?_, fun _ l hl => new_tup A hq w (q.cut lo hi) hl⟩)
    rw [q.length] at z
    rw [cutL_all z] at w
    rw [← e]
    exact OpPost.plain A hq w r2
  · exact .inr (.inr ⟨_, r, w.1, OpPost.plain A hq w.2 rfl⟩)
  · exact w.elim
theorem post_sl0 {x : V} (h : OpPost K s (.sl false false) false [x] H Q) : rSl3 K x none none H Q := by
  obtain ⟨g, st, ds, Qd, A, r, w, hq⟩ := h
  obtain ⟨a, rfl, r1⟩ := r.one
  exact cut_post A r1 (show cutW a none none Qd from w) hq
theorem post_sl1 {x y : V} (h : OpPost K s (.sl true false) false [x, y] H Q) : ∃ i, y = .int i ∧ rSl3 K x (some i) none H Q := by
  obtain ⟨g, st, ds, Qd, A, r, w, hq⟩ := h
  obtain ⟨a, b, rfl, r1, r2⟩ := r.two
  cases b with
  | int i => exact ⟨i, r2, cut_post A r1 (show cutW a (some i) none Qd from w) hq⟩
  | _ => exact (show False from w).elim
theorem post_sl2 {x y : V} (h : OpPost K s (.sl false true) false [x, y] H Q) : ∃ i, y = .int i ∧ rSl3 K x none (some i) H Q := by
  obtain ⟨g, st, ds, Qd, A, r, w, hq⟩ := h
  obtain ⟨a, b, rfl, r1, r2⟩ := r.two
  cases b with
  | int i => exact ⟨i, r2, cut_post A r1 (show cutW a none (some i) Qd from w) hq⟩
  | _ => exact (show False from w).elim
theorem str2_inv {ds : List D} {k : Str → Str → Prop} (h : str2 ds k) : ∃ i j, ds = [.str i, .str j] ∧ k i j := by
  unfold str2 at h
  split at h
  · exact ⟨_, _, rfl, h⟩
  · exact h.elim
theorem strs_rep {g : Gh} {n : Nat} : ∀ {es : List D} {ys : List Str} {vs : List V}, strsD es = some ys → Reps K g n H es vs → vs = ys.map V.str
  | [], ys, _, e, h => by cases e; cases h; rfl
  | .str x :: es, ys, _, e, ⟨v, r, e2, h, t⟩ => by
    subst e2
    simp only [strsD, Option.map_eq_some_iff] at e
    obtain ⟨zs, e1, rfl⟩ := e
    cases (show v = V.str x from h)
    rw [strs_rep e1 t]
    rfl
  | .non :: _, _, _, e, _ => by cases e
  | .bl _ :: _, _, _, e, _ => by cases e
  | .int _ :: _, _, _, e, _ => by cases e
  | .tup _ :: _, _, _, e, _ => by cases e
  | .lst _ :: _, _, _, e, _ => by cases e
  | .dic _ _ :: _, _, _, e, _ => by cases e
  | .obj _ _ :: _, _, _, e, _ => by cases e
  | .exc _ _ :: _, _, _, e, _ => by cases e
  | .cell _ :: _, _, _, e, _ => by cases e
  | .scr _ :: _, _, _, e, _ => by cases e
theorem Reps.strs {g : Gh} {n : Nat} (ys : List Str) : Reps K g n H (ys.map D.str) (ys.map V.str) := by
  induction ys with
  | nil => rfl
  | cons y ys ih => exact ⟨_, _, rfl, rfl, ih⟩
abbrev mJoin (K : PySem.W.Frag) : V → List V → Hp → VK → Prop := fun x xs H Q => ∃ a p, ∃ ys : List Str, x = .str a ∧ xs = [.ref p] ∧ (SqL K H p (ys.map V.str) ∨ SqT K H p (ys.map V.str)) ∧ (ys.map (·.length)).sum + ys.length * a.length ≤ 16777216 ∧ Q (.str (Txt.join a ys)) H
theorem post_join {x y : V} (h : OpPost K s .join false [x, y] H Q) : mJoin K x [y] H Q := by
  obtain ⟨g, st, ds, Qd, A, r, w, hq⟩ := h
  obtain ⟨a, b, rfl, r1, r2⟩ := r.two
  have w' : joinW [a, b] Qd := w
  cases a with
  | str z =>
    obtain ⟨es, ys, e1, e2, hl, q⟩ := w'
    obtain ⟨p, vs, rfl, hs, r3⟩ := r2.seq e1
    have e3 := strs_rep e2 r3
    subst e3
    exact ⟨z, p, ys, r1, rfl, hs, hl, OpPost.plain A hq q rfl⟩
  | _ => exact (show False from w').elim
abbrev mSplit : V → List V → Hp → VK → Prop := fun x xs H Q => ∃ a b, x = .str a ∧ xs = [.str b] ∧ (b.length == 0) = false ∧ a.length + 2 ≤ sizeLine ∧ rNewStrs (Txt.split a b) H Q
theorem post_split {x y : V} (h : OpPost K s .split m [x, y] H Q) : mSplit x [y] H Q := by
  obtain ⟨g, st, ds, Qd, A, r, w, hq⟩ := h
  obtain ⟨a, b, rfl, ⟨h1, h2⟩, q⟩ := str2_inv (show str2 ds _ from w)
  obtain ⟨a', b', e, r1, r2⟩ := r.two
  cases e
  exact ⟨a, b, r1, by rw [show y = V.str b from r2], h1, h2, fun p hp => new_lst A hq q (Reps.strs _) hp⟩
abbrev mRmpre : V → List V → Hp → VK → Prop := fun x xs H Q => ∃ a b, x = .str a ∧ xs = [.str b] ∧ a.length ≤ sizeLine ∧ Q (.str (Txt.removeprefix a b)) H
theorem post_rmpre {x y : V} (h : OpPost K s .rmpre false [x, y] H Q) : mRmpre x [y] H Q := by
  obtain ⟨g, st, ds, Qd, A, r, w, hq⟩ := h
  obtain ⟨a, b, rfl, h1, q⟩ := str2_inv (show str2 ds _ from w)
  obtain ⟨a', b', e, r1, r2⟩ := r.two
  cases e
  exact ⟨a, b, r1, by rw [show y = V.str b from r2], h1, OpPost.plain A hq q rfl⟩
abbrev mStarts : V → List V → Hp → VK → Prop := fun x xs H Q => ∃ a b, x = .str a ∧ xs = [.str b] ∧ Q (.bl (Txt.startswith a b)) H
theorem post_starts {x y : V} (h : OpPost K s .starts false [x, y] H Q) : mStarts x [y] H Q := by
  obtain ⟨g, st, ds, Qd, A, r, w, hq⟩ := h
  obtain ⟨a, b, rfl, q⟩ := str2_inv (show str2 ds _ from w)
  obtain ⟨a', b', e, r1, r2⟩ := r.two
  cases e
  exact ⟨a, b, r1, by rw [show y = V.str b from r2], OpPost.plain A hq q rfl⟩
abbrev mFind : V → List V → Hp → VK → Prop := fun x xs H Q => ∃ a b, x = .str a ∧ xs = [.str b] ∧ Q (.int (Txt.find a b)) H
theorem post_find {x y : V} (h : OpPost K s .find false [x, y] H Q) : mFind x [y] H Q := by
  obtain ⟨g, st, ds, Qd, A, r, w, hq⟩ := h
  obtain ⟨a, b, rfl, q⟩ := str2_inv (show str2 ds _ from w)
  obtain ⟨a', b', e, r1, r2⟩ := r.two
  cases e
  exact ⟨a, b, r1, by rw [show y = V.str b from r2], OpPost.plain A hq q rfl⟩
theorem post_index {x y : V} {W : WX} (h : OpPost K s .index false [x, y] H Q) : rIndexX W s x [y] H Q := by
  obtain ⟨g, st, ds, Qd, A, r, w, hq⟩ := h
  obtain ⟨a, b, rfl, k, hk, q⟩ := str2_inv (show str2 ds _ from w)
  obtain ⟨a', b', e, r1, r2⟩ := r.two
  cases e
  refine ⟨a, b, r1, by rw [show y = V.str b from r2], fun j hj => ?_, fun hn => ?_⟩
  · rw [hk] at hj
    cases hj
    exact OpPost.plain A hq q rfl
  · rw [hk] at hn
    cases hn
theorem ix_lookup {β : Type} : ∀ {ks : List Str} {vs : List β} {x : Str} {i : Nat} {v : β}, ks.idxOf? x = some i → vs[i]? = some v → (ks.zip vs).lookup x = some v
  | [], _, _, _, _, e, _ => by simp at e
  | a :: ks, [], _, _, _, _, e => by simp at e
  | a :: ks, b :: vs, x, i, v, e1, e2 => by
    rw [List.idxOf?_cons] at e1
    rw [List.zip_cons_cons, List.lookup_cons]
    by_cases h : a = x
    · subst h
      simp at e1
      subst e1
      simpa using e2
    · have h1 : (a == x) = false := by simpa using h
      have h2 : (x == a) = false := by simpa using fun z => h z.symm
      rw [h1] at e1
      rw [h2]
      simp only [Bool.false_eq_true, if_false, Option.map_eq_some_iff] at e1
      obtain ⟨j, e3, rfl⟩ := e1
      exact ix_lookup e3 (by simpa using e2)
theorem ix_mem {ks : List Str} {x : Str} {i : Nat} (h : ks.idxOf? x = some i) : x ∈ ks := by
  have := List.isSome_idxOf? (l := ks) (a := x)
  rw [h] at this
  simpa using this
/-- o.f -/
theorem post_fld {x : V} {f : Str} (kt : KitB K.K = true) (h : OpPost K s (.fld f) false [x] H Q) : ∃ a C dx fs v, x = .ref a ∧ H a = some (.ins C dx fs) ∧ Cls K.K C ∧ NoAttr K.K C f ∧ fs.lookup f = some v ∧ Q v H := by
  obtain ⟨g, st, ds, Qd, A, r, w, hq⟩ := h
  obtain ⟨a, rfl, w2⟩ := any1_inv (show any1 ds _ from w)
  obtain ⟨x', e, r1⟩ := r.to1
  cases e
  cases a with
  | obj c ds =>
    obtain ⟨k, d, h1, h2, q⟩ := w2
    obtain ⟨p, vs, rfl, ⟨hc, hl, dx, hp⟩, r2⟩ := r1
    obtain ⟨v, e2, rv⟩ := r2.get h2
    obtain ⟨k0, k01, _⟩ := KitB.at kt hc
    exact ⟨p, _, dx, _, v, rfl, hp, (clsB_ok k0).1, k01 f (ix_mem h1), ix_lookup h1 e2, OpPost.plain A hq q rv⟩
  | _ => exact (show False from w2).elim
end
end Mp
namespace Mp
open PySem PySem.Spec L2

/-- the expression e of the text is t -/
def SE (X : Cx) (ER : ExT) (Wx : WX) (C : Calls) (e : Expr) (t : Ex) (m : Bool) : Prop := PE X e (rdE (kz X) ER Wx (wE C t) m)
def SO (X : Cx) (ER : ExT) (Wx : WX) (C : Calls) (e : Expr) (t : Ex) : Prop := PE X e (rdO (kz X) ER Wx C t)
def SA (X : Cx) (ER : ExT) (Wx : WX) (C : Calls) (es : List Expr) (ts : List Ex) : Prop := PA X es (rdA (kz X) ER Wx (wA C ts))
def SL (X : Cx) (ER : ExT) (Wx : WX) (C : Calls) (es : List Expr) (ts : List Ex) : Prop := PA X es (rdL (kz X) ER Wx ts.length (wL C ts))
def ST (X : Cx) (ER : ExT) (Wx : WX) (C : Calls) (e : Expr) (t : Ex) : Prop := PT X e (rdT (kz X) ER Wx (wT C t))
def isBrw : Ex → Bool
  | .brw _ => true
  | _ => false
def notStar : Expr → Bool
  | .Starred _ _ => false
  | _ => true
theorem star_of {e : Expr} (h : notStar e = true) (es : List Expr) (env : Env) : starEach (e :: es) env = (false, eval e env) :: starEach es env := by
  cases e <;> first | rfl | cases h
theorem star_any : ∀ {es : List Expr} (h : es.all notStar = true) (pos : Pos) (env : Env), (backTo pos (starEach es env)).any (·.1) = false
  | [], _, _, _ => rfl
  | e :: es, h, pos, env => by
    have h' : notStar e = true ∧ es.all notStar = true := by simpa only [List.all_cons, Bool.and_eq_true] using h
    rw [star_of h'.1]
    show (false || (backTo pos (starEach es env)).any (·.1)) = false
    rw [star_any h'.2]
    rfl

section
variable {X : Cx} {ER : ExT} {Wx : WX} {C : Calls} {m : Bool}
theorem SO.of {e : Expr} {t : Ex} (h : SE X ER Wx C e t false) (hb : isBrw t = false) : SO X ER Wx C e t := by
  have e2 : rdO (kz X) ER Wx C t = rdE (kz X) ER Wx (wE C t) false := by
    cases t <;> first | rfl | cases hb
  show PE X e (rdO (kz X) ER Wx C t)
  rw [e2]
  exact h
theorem so_brw {i : Nat} {x : Str} {pos : Pos} (hN : X.N[i]? = some x) (hv : Vis X.env.scope x) (hd : (x == ("__debug__" : Str)) = false) (hcd : (x == ("__classdict__" : Str)) = false) : SO X ER Wx C (.Name x pos) (.brw i) := pe_var hN hv hd hcd
theorem sa_nil : SA X ER Wx C [] [] := paImp pa_nil fun s H Q h => split_nil h
theorem sa_cons {e : Expr} {es : List Expr} {t : Ex} {ts : List Ex} (h : SO X ER Wx C e t) (hs : SA X ER Wx C es ts) (hst : notStar e = true) : SA X ER Wx C (e :: es) (t :: ts) :=
  paImp (pa_cons h hs (star_of hst _ _)) fun s H Q h => split_cons h
theorem sl_nil : SL X ER Wx C [] [] := paImp pa_nil fun s H Q h => splitL_nil h
theorem sl_cons {e : Expr} {es : List Expr} {t : Ex} {ts : List Ex} (h : SE X ER Wx C e t false) (hs : SL X ER Wx C es ts) (hst : notStar e = true) : SL X ER Wx C (e :: es) (t :: ts) :=
  paImp (pa_cons h hs (star_of hst _ _)) fun s H Q h => splitL_cons h

/-! ### constants and names -/
theorem rdE_con {d : D} {v : V} {s : L2.St} {H : Hp} {Q : VK} (h : rdE (kz X) ER Wx (wE C (.con d)) m s H Q) (hr : ∀ g n H, Rep (kz X) g n H d v) (hm : m = false ∨ scalD d = true) : Q v H := by
  obtain ⟨g, st, Qd, Xd, A, w, hq, hx⟩ := h
  have w' : Qd d st := by simpa only [wE] using w
  refine hq _ _ _ _ _ w' (Ext.refl _ _ _) A ?_
  cases m with
  | false => exact hr _ _ _
  | true => exact .inr ⟨hm.resolve_left (by simp), hr _ _ _⟩
theorem se_int {i j pos} : SE X ER Wx C (.Constant (.int i) j pos) (.con (.int i)) m := peImp pe_int fun s H Q h => rdE_con h (fun _ _ _ => rfl) (.inr rfl)
theorem se_bl {b j pos} : SE X ER Wx C (.Constant (.bool b) j pos) (.con (.bl b)) m := peImp pe_bl fun s H Q h => rdE_con h (fun _ _ _ => rfl) (.inr rfl)
theorem se_non {j pos} : SE X ER Wx C (.Constant .none j pos) (.con .non) m := peImp pe_non fun s H Q h => rdE_con h (fun _ _ _ => rfl) (.inr rfl)
theorem se_str {x j pos} : SE X ER Wx C (.Constant (.str x) j pos) (.con (.str x)) m := peImp pe_str fun s H Q h => rdE_con h (fun _ _ _ => rfl) (.inr rfl)
theorem se_glo {x : Str} {d : D} {v : V} {u : Value} {pos : Pos} (hg : Gl X x) (hm : X.mg x = some u) (r : RelV v u) (hr : ∀ g n H, Rep (kz X) g n H d v) (hd : (x == ("__debug__" : Str)) = false) : SE X ER Wx C (.Name x pos) (.con d) false :=
  peImp (pe_glob hg hm r hd) fun s H Q h => rdE_con h hr (.inl rfl)
theorem se_var {i : Nat} {x : Str} {pos : Pos} (hN : X.N[i]? = some x) (hv : Vis X.env.scope x) (hd : (x == ("__debug__" : Str)) = false) (hcd : (x == ("__classdict__" : Str)) = false) : SE X ER Wx C (.Name x pos) (.var i) false :=
  peImp (pe_var hN hv hd hcd) fun s H Q h => by
    obtain ⟨g, st, Qd, Xd, A, w, hq, hx⟩ := h
    simp only [wE] at w
    split at w
    · rename_i d e
      obtain ⟨ov, e1, v, e2, r⟩ := A.sl i _ e
      exact ⟨v, by rw [e1, e2], hq _ _ _ _ _ w (Ext.refl _ _ _) A r⟩
    · rename_i d e
      obtain ⟨a, e1, A', x, r⟩ := A.freeze e
      exact ⟨_, e1, hq _ _ _ _ _ w x A' r⟩
    · exact w.elim
theorem se_mov {i : Nat} {x : Str} {pos : Pos} (hN : X.N[i]? = some x) (hv : Vis X.env.scope x) (hd : (x == ("__debug__" : Str)) = false) (hcd : (x == ("__classdict__" : Str)) = false) : SE X ER Wx C (.Name x pos) (.mov i) true :=
  peImp (pe_var hN hv hd hcd) fun s H Q h => by
    obtain ⟨g, st, Qd, Xd, A, w, hq, hx⟩ := h
    simp only [wE] at w
    split at w
    · rename_i d e
      obtain ⟨a, e1, A', m1, r, no, nc⟩ := A.take e
      exact ⟨_, e1, hq _ _ _ _ _ w (Ext.refl _ _ _) A' (.inl ⟨a, rfl, m1, r, no, nc⟩)⟩
    · rename_i d e
      obtain ⟨ov, e1, v, e2, r⟩ := A.sl i _ e
      exact ⟨v, by rw [e1, e2], hq _ _ _ _ _ w.2 (Ext.refl _ _ _) A (.inr ⟨w.1, r⟩)⟩
    · exact w.elim

/-! ### operations -/
theorem se_bin {op : Operator} {o : Op} {r : R2} {a b : Expr} {ta tb : Ex} {pos : Pos} (ho : OpR X (binaryOp op) r) (hr : ∀ {s H Q x y}, OpPost (kz X) s o m [x, y] H Q → r x y H Q) (ha : SO X ER Wx C a ta) (hb : SO X ER Wx C b tb) :
    SE X ER Wx C (.BinOp a op b pos) (.op o [ta, tb]) m :=
  peImp (pe_op ho ha hb) fun s H Q h => rdO_mono (rdE_op2 h) fun x H1 h1 => rdO_mono h1 fun y H2 h2 => hr h2
theorem se_un {op : UnaryOp} {o : Op} {r : V → Hp → VK → Prop} {a : Expr} {ta : Ex} {pos : Pos} (ho : UnR X (unaryOp op) r) (hr : ∀ {s H Q x}, OpPost (kz X) s o m [x] H Q → r x H Q) (ha : SO X ER Wx C a ta) :
    SE X ER Wx C (.UnaryOp op a pos) (.op o [ta]) m :=
  peImp (pe_un ho ha) fun s H Q h => rdO_mono (rdE_op1 h) fun x H1 h1 => hr h1
theorem se_cmp {op : CmpOp} {o : Op} {r : R2} {a b : Expr} {ta tb : Ex} {pos : Pos} (ho : OpR X (compareOp op) r) (hr : ∀ {s H Q x y}, OpPost (kz X) s o false [x, y] H Q → r x y H Q) (ha : SO X ER Wx C a ta) (hb : SO X ER Wx C b tb) (hm : behindInMarks op b = false) :
    SE X ER Wx C (.Compare a [op] [b] pos) (.op o [ta, tb]) false :=
  peImp (pe_cmpR ho ha hb hm) fun s H Q h => rdO_mono (rdE_op2 h) fun x H1 h1 => rdO_mono h1 fun y H2 h2 => hr h2
theorem se_isN {j : Nat} {p pos : Pos} {a : Expr} {ta : Ex} (ha : SO X ER Wx C a ta) : SE X ER Wx C (.Compare a [.Is] [.Constant .none j p] pos) (.op .isN [ta]) false :=
  peImp (pe_cmp (pc_isN ha)) fun s H Q h => rdO_mono (rdE_op1 h) fun x H1 h1 => by
    obtain ⟨g, st, ds, Qd, A, r, w, hq⟩ := h1
    obtain ⟨a, rfl, w2⟩ := any1_inv (show any1 ds _ from w)
    obtain ⟨x', e, r1⟩ := r.to1
    cases e
    refine OpPost.plain A hq w2 ?_
    cases a with
    | non => cases (show x = V.non from r1); rfl
    | bl b => cases (show x = V.bl b from r1); rfl
    | int b => cases (show x = V.int b from r1); rfl
    | str b => cases (show x = V.str b from r1); rfl
    | lst b => obtain ⟨_, _, e, _⟩ := r1; cases e; rfl
    | tup b => obtain ⟨_, _, e, _⟩ := r1; cases e; rfl
    | dic b c => obtain ⟨_, _, _, e, _⟩ := r1; cases e; rfl
    | cell l => obtain ⟨_, e⟩ := r1; cases e; rfl
    | scr b => obtain ⟨_, _, e, _⟩ := r1; cases e; rfl
    | obj b c => obtain ⟨_, _, e, _⟩ := r1; cases e; rfl
    | exc b c => exact r1.elim
theorem se_isNotN {j : Nat} {p pos : Pos} {a : Expr} {ta : Ex} (ha : SO X ER Wx C a ta) : SE X ER Wx C (.Compare a [.IsNot] [.Constant .none j p] pos) (.op .isNotN [ta]) false :=
  peImp (pe_cmp (pc_notN ha)) fun s H Q h => rdO_mono (rdE_op1 h) fun x H1 h1 => by
    obtain ⟨g, st, ds, Qd, A, r, w, hq⟩ := h1
    obtain ⟨a, rfl, w2⟩ := any1_inv (show any1 ds _ from w)
    obtain ⟨x', e, r1⟩ := r.to1
    cases e
    refine OpPost.plain A hq w2 ?_
    cases a with
    | non => cases (show x = V.non from r1); rfl
    | bl b => cases (show x = V.bl b from r1); rfl
    | int b => cases (show x = V.int b from r1); rfl
    | str b => cases (show x = V.str b from r1); rfl
    | lst b => obtain ⟨_, _, e, _⟩ := r1; cases e; rfl
    | tup b => obtain ⟨_, _, e, _⟩ := r1; cases e; rfl
    | dic b c => obtain ⟨_, _, _, e, _⟩ := r1; cases e; rfl
    | cell l => obtain ⟨_, e⟩ := r1; cases e; rfl
    | scr b => obtain ⟨_, _, e, _⟩ := r1; cases e; rfl
    | obj b c => obtain ⟨_, _, e, _⟩ := r1; cases e; rfl
    | exc b c => exact r1.elim
/-- a built-in function by its name -/
theorem se_callB {id : String} {o : Op} {r : List V → Hp → VK → Prop} {x : Str} {e : Expr} {es : List Expr} {ts : List Ex} {p pos : Pos} (hc : CallR X (.builtin id) r) (hr : ∀ {s H Q vs}, OpPost (kz X) s o m vs H Q → r vs H Q)
    (hg : Gl X x) (hm : X.mg x = none) (hv : bootBuiltins x = some (.builtin id)) (ha : SA X ER Wx C (e :: es) ts) (hs : (e :: es).all notStar = true) (hn : x ≠ "__name__") (hd : (x == ("__debug__" : Str)) = false) :
    SE X ER Wx C (.Call (.Name x p) (e :: es) [] pos) (.op o ts) m := by
  have h' : notStar e = true ∧ es.all notStar = true := by simpa only [List.all_cons, Bool.and_eq_true] using hs
  exact peImp (pe_callB hc hg hm hv ha hn hd (star_of h'.1 _ _) (star_any h'.2 _ _)) fun s H Q h => rdA_mono (rdE_op h) fun vs H1 h1 => hr h1
theorem se_callTy {T : String} {o : Op} {r : List V → Hp → VK → Prop} {x : Str} {e : Expr} {es : List Expr} {ts : List Ex} {p pos : Pos} (hc : CallR X (.type T) r) (hr : ∀ {s H Q vs}, OpPost (kz X) s o m vs H Q → r vs H Q)
    (hg : Gl X x) (hm : X.mg x = none) (hv : bootBuiltins x = some (.type T)) (ha : SA X ER Wx C (e :: es) ts) (hs : (e :: es).all notStar = true) (hn : x ≠ "__name__") (hd : (x == ("__debug__" : Str)) = false) :
    SE X ER Wx C (.Call (.Name x p) (e :: es) [] pos) (.op o ts) m := by
  have h' : notStar e = true ∧ es.all notStar = true := by simpa only [List.all_cons, Bool.and_eq_true] using hs
  exact peImp (pe_callTy hc hg hm hv ha hn hd (star_of h'.1 _ _) (star_any h'.2 _ _)) fun s H Q h => rdA_mono (rdE_op h) fun vs H1 h1 => hr h1
/-- a class by its name -/
theorem pe_cls {t : Ty} {x : Str} {p : Pos} (hx : x = (match t with | .own c => clsN c | t => Str.ofString (tyName t))) (hg : Gl X x) (hn : x ≠ "__name__") (hd : (x == ("__debug__" : Str)) = false)
    (hm : match t with | .own c => X.mg x = some (.ref (CL (kz X) c)) | _ => X.mg x = none) : PE X (.Name x p) (tC (tyV' (kz X) t)) := by
  cases t with
  | own c => exact pe_glob (v := .ref (CL (kz X) c)) hg hm rfl hd
  | int => subst hx; exact pe_bltn (v := .ty "int") hg hm (by decide +kernel) rfl hn hd
  | bool => subst hx; exact pe_bltn (v := .ty "bool") hg hm (by decide +kernel) rfl hn hd
  | str => subst hx; exact pe_bltn (v := .ty "str") hg hm (by decide +kernel) rfl hn hd
  | list => subst hx; exact pe_bltn (v := .ty "list") hg hm (by decide +kernel) rfl hn hd
  | tuple => subst hx; exact pe_bltn (v := .ty "tuple") hg hm (by decide +kernel) rfl hn hd
  | dict => subst hx; exact pe_bltn (v := .ty "dict") hg hm (by decide +kernel) rfl hn hd
/-- isinstance(e, T) -/
theorem se_isi1 {a c : Expr} {ta : Ex} {t : Ty} {p pos : Pos} (k : KitB X.K = true) (ht : tyKn (kz X) t = true) (hg : Gl X "isinstance") (hm : X.mg "isinstance" = none) (hc : PE X c (tC (tyV' (kz X) t))) (hcs : notStar c = true) (ha : SO X ER Wx C a ta) (hs : notStar a = true) :
    SE X ER Wx C (.Call (.Name "isinstance" p) [a, c] [] pos) (.op (.isi [t] false) [ta]) false := by
  have h2 : PA X [a, c] (tCons (rdO (kz X) ER Wx C ta) (tCons (tC (tyV' (kz X) t)) tNil)) := pa_cons ha (pa_cons hc pa_nil (star_of hcs _ _)) (star_of hs _ _)
  refine peImp (pe_callB call_isi hg hm (by decide +kernel) h2 (by decide) (by decide) (star_of hs _ _) (star_any (by simp [hcs]) _ _)) fun s H Q h => ?_
  exact rdO_mono (rdE_op1 h) fun x H1 h1 => post_isi1 k ht h1
theorem pa_tys {ts : List Ty} {es : List Expr} (h : Paired (fun c t => PE X c (tC (tyV' (kz X) t)) ∧ notStar c = true) es ts) : PA X es (fun _ H Q => Q (ts.map (tyV' (kz X))) H) := by
  induction h with
  | nil => exact pa_nil
  | cons h1 _ ih => exact paImp (pa_cons h1.1 ih (star_of h1.2 _ _)) fun s H Q q => q
/-- isinstance(e, (T, U)) -/
theorem se_isiT {a : Expr} {cs : List Expr} {ta : Ex} {ts : List Ty} {kk : Nat} {p p2 pos : Pos} (k : KitB X.K = true) (ht : ∀ t ∈ ts, tyKn (kz X) t = true) (hg : Gl X "isinstance") (hm : X.mg "isinstance" = none) (hc : Paired (fun c t => PE X c (tC (tyV' (kz X) t)) ∧ notStar c = true) cs ts)
    (hlen : ts.length ≤ 1000) (ha : SO X ER Wx C a ta) (hs : notStar a = true) : SE X ER Wx C (.Call (.Name "isinstance" p) [a, .Tuple cs kk p2] [] pos) (.op (.isi ts true) [ta]) false := by
  have h2 : PA X [a, .Tuple cs kk p2] (tCons (rdO (kz X) ER Wx C ta) (tCons _ tNil)) := pa_cons ha (pa_cons (pe_tup (pa_tys hc)) pa_nil (star_of rfl _ _)) (star_of hs _ _)
  refine peImp (pe_callB call_isiT hg hm (by decide +kernel) h2 (by decide) (by decide) (star_of hs _ _) (star_any rfl _ _)) fun s H Q h => ?_
  refine rdO_mono (rdE_op1 h) fun x H1 h1 => ⟨?_, fun q hq => post_isiT k ht h1 q hq⟩
  rw [List.length_map, sizeLine_eq]
  exact Nat.le_trans hlen (by decide)
/-! ### methods of texts -/
def isCon : Ex → Bool
  | .con _ => true
  | _ => false
theorem slR_or {r r' : V → Option Int → Option Int → Hp → VK → Prop} (h : L2.SlR X r) (h' : L2.SlR X r') : L2.SlR X (fun x lo hi H Q => r x lo hi H Q ∨ r' x lo hi H Q) := by
  intro pins s σ H x v vl vu lo hi sl Q I rx hs pl pu q
  rcases q with q | q
  · exact h pins s σ H x v vl vu lo hi sl Q I rx hs pl pu q
  · exact h' pins s σ H x v vl vu lo hi sl Q I rx hs pl pu q
theorem sl_3 : L2.SlR X (rSl3 X.K) := slR_or sl_list (slR_or sl_tupA sl_str)
/-- a[:] -/
theorem se_sl0 {a : Expr} {ta : Ex} {p pos : Pos} (ha : SO X ER Wx C a ta) : SE X ER Wx C (.Subscript a (.Slice none none none p) pos) (.op (.sl false false) [ta]) false :=
  peImp (pe_slice sl_3 ha po_none po_none) fun s H Q h => rdO_mono (rdE_op1 h) fun x H1 h1 => post_sl0 h1
/-- a[i:] -/
theorem se_sl1 {a b : Expr} {ta tb : Ex} {p pos : Pos} (ha : SO X ER Wx C a ta) (hb : SO X ER Wx C b tb) : SE X ER Wx C (.Subscript a (.Slice (some b) none none p) pos) (.op (.sl true false) [ta, tb]) false :=
  peImp (pe_slice sl_3 ha (po_some hb) po_none) fun s H Q h => rdO_mono (rdE_op2 h) fun x H1 h1 => rdO_mono h1 fun y H2 h2 => post_sl1 h2
/-- a[:i] -/
theorem se_sl2 {a b : Expr} {ta tb : Ex} {p pos : Pos} (ha : SO X ER Wx C a ta) (hb : SO X ER Wx C b tb) : SE X ER Wx C (.Subscript a (.Slice none (some b) none p) pos) (.op (.sl false true) [ta, tb]) false :=
  peImp (pe_slice sl_3 ha po_none (po_some hb)) fun s H Q h => rdO_mono (rdE_op2 h) fun x H1 h1 => rdO_mono h1 fun y H2 h2 => post_sl2 h2
/-- o.f -/
theorem se_fld {a : Expr} {ta : Ex} {f : Str} {pos : Pos} (k : KitB X.K = true) (ha : SO X ER Wx C a ta) (hb : attributeBase a f X.env (eval a X.env) = eval a X.env) : SE X ER Wx C (.Attribute a f pos) (.op (.fld f) [ta]) false :=
  peImp (pe_fld ha hb) fun s H Q h => rdO_mono (rdE_op1 h) fun x H1 h1 => post_fld k h1
/-- is True, is False -/
theorem se_isB {a : Expr} {ta : Ex} {b : Bool} {j : Nat} {p pos : Pos} (ha : SO X ER Wx C a ta) : SE X ER Wx C (.Compare a [.Is] [.Constant (.bool b) j p] pos) (.op (if b then .isT else .isF) [ta]) false :=
  peImp (pe_cmpR op_isBl ha pe_bl (nomark _)) fun s H Q h => rdO_mono (rdE_op1 h) fun x H1 h1 => by
    obtain ⟨g, st, ds, Qd, A, r, w, hq⟩ := h1
    have w' : any1 ds fun a => isBW b false a Qd := by cases b <;> exact w
    obtain ⟨a, rfl, w2⟩ := any1_inv w'
    obtain ⟨x', e, r1⟩ := r.to1
    cases e
    cases a with
    | bl c => exact ⟨c, b, r1, rfl, OpPost.plain A hq w2 rfl⟩
    | _ => exact (show False from w2).elim
theorem se_isNB {a : Expr} {ta : Ex} {b : Bool} {j : Nat} {p pos : Pos} (ha : SO X ER Wx C a ta) : SE X ER Wx C (.Compare a [.IsNot] [.Constant (.bool b) j p] pos) (.op (if b then .isNT else .isNF) [ta]) false :=
  peImp (pe_cmpR op_notBl ha pe_bl (nomark _)) fun s H Q h => rdO_mono (rdE_op1 h) fun x H1 h1 => by
    obtain ⟨g, st, ds, Qd, A, r, w, hq⟩ := h1
    have w' : any1 ds fun a => isBW b true a Qd := by cases b <;> exact w
    obtain ⟨a, rfl, w2⟩ := any1_inv w'
    obtain ⟨x', e, r1⟩ := r.to1
    cases e
    cases a with
    | bl c => exact ⟨c, b, r1, rfl, OpPost.plain A hq w2 rfl⟩
    | _ => exact (show False from w2).elim
end
end Mp
namespace Mp
open PySem PySem.Spec L2

section
variable {K : Kc} {s : L2.St} {H H1 : Hp} {ER : ExT} {Wx : WX} {C : Calls} {m : Bool} {g g1 : Gh} {st st1 : Stt}
/-- going on behind a first part -/
theorem rdE_next {w : Stt → PD → PX → Prop} {Qd : PD} {Xd : PX} {Q : VK} (A1 : Abs K g1 st1 s H1) (x1 : Ext g st.h.length H g1 st1.h.length H1) (w1 : w st1 Qd Xd)
    (hq : ∀ d st' v g' H', Qd d st' → Ext g st.h.length H g' st'.h.length H' → Abs K g' st' s H' → RepM K g' st' s H' m d v → Q v H')
    (hx : ∀ c fs st' cls dd g' H', Xd c fs st' → Ext g st.h.length H g' st'.h.length H' → Abs K g' st' s H' → ER g' st'.h.length H' c fs cls dd → Wx cls dd s H') : rdE K ER Wx w m s H1 Q :=
  ⟨g1, st1, Qd, Xd, A1, w1, fun d st' v g' H' q x A r => hq d st' v g' H' q (x1.trans x) A r, fun c fs st' cls dd g' H' q x A r => hx c fs st' cls dd g' H' q (x1.trans x) A r⟩
theorem rdT_next {w : Stt → (Bool → Stt → Prop) → PX → Prop} {Qd : Bool → Stt → Prop} {Xd : PX} {Q : Bool → Hp → Prop} (A1 : Abs K g1 st1 s H1) (x1 : Ext g st.h.length H g1 st1.h.length H1) (w1 : w st1 Qd Xd)
    (hq : ∀ b st' g' H', Qd b st' → Ext g st.h.length H g' st'.h.length H' → Abs K g' st' s H' → Q b H')
    (hx : ∀ c fs st' cls dd g' H', Xd c fs st' → Ext g st.h.length H g' st'.h.length H' → Abs K g' st' s H' → ER g' st'.h.length H' c fs cls dd → Wx cls dd s H') : rdT K ER Wx w s H1 Q :=
  ⟨g1, st1, Qd, Xd, A1, w1, fun b st' g' H' q x A => hq b st' g' H' q (x1.trans x) A, fun c fs st' cls dd g' H' q x A r => hx c fs st' cls dd g' H' q (x1.trans x) A r⟩
theorem Reps.empty {n : Nat} {ds : List D} {vs : List V} (r : Reps K g n H ds vs) : vs.isEmpty = ds.isEmpty := by
  have h := r.length
  cases ds <;> cases vs <;> first | rfl | (simp at h)
theorem Vw.tru {n : Nat} {k : Bool} : ∀ {a : D} {x : V}, truD a = some k → Vw K g n H a x → TruV K x H k
  | .non, _, e, h => by cases (show _ = V.non from h); cases e; rfl
  | .bl b, _, e, h => by cases (show _ = V.bl b from h); cases e; rfl
  | .int i, _, e, h => by cases (show _ = V.int i from h); cases e; rfl
  | .lst ds, _, e, ⟨a, vs, e1, h, r⟩ => by subst e1; cases e; exact .inl ⟨vs, SqL.of h, by rw [r.empty]⟩
  | .tup ds, _, e, ⟨a, vs, e1, h, r⟩ => by subst e1; cases e; exact .inr (.inl ⟨vs, h.sq, by rw [r.empty]⟩)
end

section
variable {X : Cx} {ER : ExT} {Wx : WX} {C : Calls} {m : Bool}
/-! ### tuples, lists -/
theorem se_tup {es : List Expr} {ts : List Ex} {k : Nat} {pos : Pos} (h : SL X ER Wx C es ts) : SE X ER Wx C (.Tuple es k pos) (.tup ts) false :=
  peImp (pe_tup h) fun s H Q h => by
    obtain ⟨g, st, Qd, Xd, A, w, hq, hx⟩ := h
    have w2 : wL C ts st (fun ds st1 => ds.length ≤ 1000 ∧ Qd (.tup ds) st1) Xd := by simpa only [wE] using w
    refine ⟨g, st, _, Xd, A, w2, fun ds st1 vs g1 H1 ⟨hds, q⟩ x1 A1 r1 _ => ⟨?_, fun p hp => ?_⟩, hx⟩
    · rw [r1.length, sizeLine_eq]
      exact Nat.le_trans hds (by decide)
    · exact new_tup (Qd := fun d => Qd d st1) A1 (fun d v g' H' q' x' A' r' => hq d st1 v g' H' q' (x1.trans x') A' r') q r1 hp
theorem se_lst {es : List Expr} {ts : List Ex} {pos : Pos} (h : SL X ER Wx C es ts) : SE X ER Wx C (.List es pos) (.lst ts) m :=
  peImp (pe_lst h) fun s H Q h => by
    obtain ⟨g, st, Qd, Xd, A, w, hq, hx⟩ := h
    have w2 : wL C ts st (fun ds st1 => ds.length ≤ 1000 ∧ Qd (.lst ds) st1) Xd := by simpa only [wE] using w
    refine ⟨g, st, _, Xd, A, w2, fun ds st1 vs g1 H1 ⟨hds, q⟩ x1 A1 r1 _ => ⟨?_, fun p hp => ?_⟩, hx⟩
    · rw [r1.length, sizeLine_eq]
      exact Nat.le_trans hds (by decide)
    · exact new_lst (Qd := fun d => Qd d st1) A1 (fun d v g' H' q' x' A' r' => hq d st1 v g' H' q' (x1.trans x') A' r') q r1 hp

/-! ### and, or, not, if -/
theorem se_one {op : BoolOp} {a : Expr} {ta : Ex} {pos : Pos} (ha : SE X ER Wx C a ta m) : SE X ER Wx C (.BoolOp op [a] pos) ta m := pe_one ha
theorem se_and {a b : Expr} {rest : List Expr} {ta tb : Ex} {pos : Pos} (ha : SE X ER Wx C a ta false) (hb : SE X ER Wx C (.BoolOp .And (b :: rest) pos) tb false) : SE X ER Wx C (.BoolOp .And (a :: b :: rest) pos) (.andV ta tb) false :=
  peImp (pe_andT ha hb) fun s H Q h => by
    obtain ⟨g, st, Qd, Xd, A, w, hq, hx⟩ := h
    simp only [wE] at w
    refine ⟨g, st, _, Xd, A, w, fun d st1 v g1 H1 ⟨k, hk, w1⟩ x1 A1 r1 => ⟨k, (A1.view r1).tru hk, ?_⟩, hx⟩
    cases k with
    | true => exact rdE_next A1 x1 w1 hq hx
    | false => exact hq _ _ _ _ _ w1 x1 A1 r1
theorem se_or {a b : Expr} {rest : List Expr} {ta tb : Ex} {pos : Pos} (ha : SE X ER Wx C a ta false) (hb : SE X ER Wx C (.BoolOp .Or (b :: rest) pos) tb false) : SE X ER Wx C (.BoolOp .Or (a :: b :: rest) pos) (.orV ta tb) false :=
  peImp (pe_orT ha hb) fun s H Q h => by
    obtain ⟨g, st, Qd, Xd, A, w, hq, hx⟩ := h
    simp only [wE] at w
    refine ⟨g, st, _, Xd, A, w, fun d st1 v g1 H1 ⟨k, hk, w1⟩ x1 A1 r1 => ⟨k, (A1.view r1).tru hk, ?_⟩, hx⟩
    cases k with
    | true => exact hq _ _ _ _ _ w1 x1 A1 r1
    | false => exact rdE_next A1 x1 w1 hq hx
theorem se_not {a : Expr} {ta : Ex} {pos : Pos} (ha : SE X ER Wx C a ta false) : SE X ER Wx C (.UnaryOp .Not a pos) (.notV ta) false :=
  peImp (pe_notT ha) fun s H Q h => by
    obtain ⟨g, st, Qd, Xd, A, w, hq, hx⟩ := h
    simp only [wE] at w
    exact ⟨g, st, _, Xd, A, w, fun d st1 v g1 H1 ⟨k, hk, w1⟩ x1 A1 r1 => ⟨k, (A1.view r1).tru hk, hq _ _ _ _ _ w1 x1 A1 rfl⟩, hx⟩
theorem se_ite {c a b : Expr} {tc ta tb : Ex} {pos : Pos} (hc : ST X ER Wx C c tc) (ha : SE X ER Wx C a ta m) (hb : SE X ER Wx C b tb m) : SE X ER Wx C (.IfExp c a b pos) (.ite tc ta tb) m :=
  peImp (pe_ifExp hc ha hb) fun s H Q h => by
    obtain ⟨g, st, Qd, Xd, A, w, hq, hx⟩ := h
    simp only [wE] at w
    refine ⟨g, st, _, Xd, A, w, fun k st1 g1 H1 w1 x1 A1 => ?_, hx⟩
    cases k with
    | true => exact rdE_next A1 x1 w1 hq hx
    | false => exact rdE_next A1 x1 w1 hq hx
/-- the operands of a chain -/
theorem se_chn {op op' : CmpOp} {o o' : Op} {r r' : R2} {a b c : Expr} {ta tb tc : Ex} {pos : Pos} (ho : OpR X (compareOp op) r) (ho' : OpR X (compareOp op') r') (hr : ∀ {s H Q x y}, OpPost (kz X) s o false [x, y] H Q → r x y H Q) (hr' : ∀ {s H Q x y}, OpPost (kz X) s o' false [x, y] H Q → r' x y H Q)
    (ha : SE X ER Wx C a ta false) (hb : SE X ER Wx C b tb false) (hc : SE X ER Wx C c tc false) (hm : lastMarks [op, op'] [b, c] = false) : SE X ER Wx C (.Compare a [op, op'] [b, c] pos) (.chn o o' ta tb tc) false :=
  peImp (pe_chain ho ho' ha hb hc hm) fun s H Q h => by
    obtain ⟨g, st, Qd, Xd, A, w, hq, hx⟩ := h
    simp only [wE] at w
    refine ⟨g, st, _, Xd, A, w, fun d st1 v g1 H1 w1 x1 A1 r1 => ?_, hx⟩
    refine ⟨g1, st1, _, Xd, A1, w1, fun d2 st2 v2 g2 H2 w2 x2 A2 r2 => @hr s _ _ _ _ ?_, fun c fs st' cls dd g' H' q x A r => hx c fs st' cls dd g' H' q (x1.trans x) A r⟩
    have r1' := Rep.kp (x2.kp A1.mw) r1
    refine ⟨g2, st2, [view st2.h d, view st2.h d2], _, A2, ⟨v, [v2], rfl, A2.view r1', v2, [], rfl, A2.view r2, rfl⟩, w2, fun d3 v3 g3 H3 ⟨k, ek, w3⟩ x3 A3 r3 => ⟨k, ?_, ?_⟩⟩
    · subst ek
      exact r3
    · have x13 := (x1.trans x2).trans x3
      cases k with
      | false => exact hq _ _ _ _ _ w3 x13 A3 rfl
      | true =>
        refine ⟨g3, st2, _, Xd, A3, w3, fun d4 st4 v4 g4 H4 w4 x4 A4 r4 => @hr' s _ _ _ _ ?_, fun c fs st' cls dd g' H' q x A r => hx c fs st' cls dd g' H' q (x13.trans x) A r⟩
        have r2' := Rep.kp (x4.kp A3.mw) (Rep.kp (x3.kp A2.mw) r2)
        exact ⟨g4, st4, [view st4.h d2, view st4.h d4], _, A4, ⟨v2, [v4], rfl, A4.view r2', v4, [], rfl, A4.view r4, rfl⟩, w4, fun d5 v5 g5 H5 w5 x5 A5 r5 => hq _ _ _ _ _ w5 ((x13.trans x4).trans x5) A5 r5⟩

/-! ### tests -/
def plainT : Expr → Bool
  | .UnaryOp .Not _ _ => false
  | .BoolOp _ _ _ => false
  | .IfExp _ _ _ _ => false
  | .Compare _ _ _ _ => false
  | _ => true
theorem isTrue_of {e : Expr} (h : plainT e = true) (env : Env) (whole : Sem Value) : isTrue e env whole = (do let v ← whole; standAt e.pos; holding [v] (truthy v)) := by
  cases e with
  | UnaryOp op a p => cases op <;> first | rfl | cases h
  | BoolOp _ _ _ => cases h
  | IfExp _ _ _ _ => cases h
  | Compare _ _ _ _ => cases h
  | _ => rfl
theorem st_tru {e : Expr} {t : Ex} (h : SE X ER Wx C e t false) (hp : plainT e = true) : ST X ER Wx C e (.tru t) :=
  ptImp (pt_truth h fun wh => isTrue_of hp _ wh) fun s H Q h => by
    obtain ⟨g, st, Qd, Xd, A, w, hq, hx⟩ := h
    simp only [wT] at w
    exact ⟨g, st, _, Xd, A, w, fun d st1 v g1 H1 ⟨k, hk, w1⟩ x1 A1 r1 => ⟨k, (A1.view r1).tru hk, hq _ _ _ _ w1 x1 A1⟩, hx⟩
theorem rdT_tb {K : Kc} {s : L2.St} {H : Hp} {t : Ex} {Q : Bool → Hp → Prop} (h : rdT K ER Wx (wT C (.tb t)) s H Q) : rdE K ER Wx (wE C t) false s H fun v H' => ∃ k, v = .bl k ∧ Q k H' := by
  obtain ⟨g, st, Qd, Xd, A, w, hq, hx⟩ := h
  simp only [wT] at w
  exact ⟨g, st, _, Xd, A, w, fun d st1 v g1 H1 ⟨k, hk, w1⟩ x1 A1 r1 => ⟨k, by subst hk; exact r1, hq _ _ _ _ w1 x1 A1⟩, hx⟩
theorem st_cmp {op : CmpOp} {o : Op} {r : R2} {a b : Expr} {ta tb : Ex} {pos : Pos} (ho : OpR X (compareOp op) r) (hr : ∀ {s H Q x y}, OpPost (kz X) s o false [x, y] H Q → r x y H Q) (ha : SO X ER Wx C a ta) (hb : SO X ER Wx C b tb) (hm : behindInMarks op b = false) :
    ST X ER Wx C (.Compare a [op] [b] pos) (.tb (.op o [ta, tb])) :=
  ptImp (pt_cmpR ho ha hb hm) fun s H Q h => rdO_mono (rdE_op2 (rdT_tb h)) fun x H1 h1 => rdO_mono h1 fun y H2 h2 => hr h2
theorem st_isN {j : Nat} {p pos : Pos} {a : Expr} {ta : Ex} (h : SE X ER Wx C (.Compare a [.Is] [.Constant .none j p] pos) (.op .isN [ta]) false) (ha : SO X ER Wx C a ta) : ST X ER Wx C (.Compare a [.Is] [.Constant .none j p] pos) (.tb (.op .isN [ta])) :=
  ptImp (pt_cmp (pc_isN ha)) fun s H Q h => rdO_mono (rdE_op1 (rdT_tb h)) fun x H1 h1 => by
    obtain ⟨g, st, ds, Qd, A, r, w, hq⟩ := h1
    obtain ⟨a, rfl, w2⟩ := any1_inv (show any1 ds _ from w)
    obtain ⟨x', e, r1⟩ := r.to1
    cases e
    refine OpPost.plain A hq w2 ?_
    cases a with
    | non => cases (show x = V.non from r1); rfl
    | bl b => cases (show x = V.bl b from r1); rfl
    | int b => cases (show x = V.int b from r1); rfl
    | str b => cases (show x = V.str b from r1); rfl
    | lst b => obtain ⟨_, _, e, _⟩ := r1; cases e; rfl
    | tup b => obtain ⟨_, _, e, _⟩ := r1; cases e; rfl
    | dic b c => obtain ⟨_, _, _, e, _⟩ := r1; cases e; rfl
    | cell l => obtain ⟨_, e⟩ := r1; cases e; rfl
    | scr b => obtain ⟨_, _, e, _⟩ := r1; cases e; rfl
    | obj b c => obtain ⟨_, _, e, _⟩ := r1; cases e; rfl
    | exc b c => exact r1.elim
theorem st_not {a : Expr} {ta : Ex} {pos : Pos} (ha : ST X ER Wx C a ta) : ST X ER Wx C (.UnaryOp .Not a pos) (.tNot ta) :=
  ptImp (pt_not ha) fun s H Q h => by
    obtain ⟨g, st, Qd, Xd, A, w, hq, hx⟩ := h
    simp only [wT] at w
    exact ⟨g, st, _, Xd, A, w, fun k st1 g1 H1 w1 x1 A1 => hq _ _ _ _ w1 x1 A1, hx⟩
/-- a test of and, or: whatever its whole is -/
def SW (X : Cx) (ER : ExT) (Wx : WX) (C : Calls) (e : Expr) (t : Ex) : Prop := PW X e (rdT (kz X) ER Wx (wT C t))
theorem SW.st {e : Expr} {t : Ex} (h : SW X ER Wx C e t) : ST X ER Wx C e t := PW.pt h
theorem sw_and1 {a : Expr} {ta : Ex} {pos : Pos} (ha : ST X ER Wx C a ta) : SW X ER Wx C (.BoolOp .And [a] pos) ta := pw_and1 ha
theorem sw_or1 {a : Expr} {ta : Ex} {pos : Pos} (ha : ST X ER Wx C a ta) : SW X ER Wx C (.BoolOp .Or [a] pos) ta := pw_or1 ha
theorem sw_and {a b : Expr} {rest : List Expr} {ta tb : Ex} {pos : Pos} (ha : ST X ER Wx C a ta) (hb : SW X ER Wx C (.BoolOp .And (b :: rest) pos) tb) : SW X ER Wx C (.BoolOp .And (a :: b :: rest) pos) (.tAnd ta tb) :=
  pwImp (pw_and ha hb) fun s H Q h => by
    obtain ⟨g, st, Qd, Xd, A, w, hq, hx⟩ := h
    simp only [wT] at w
    refine ⟨g, st, _, Xd, A, w, fun k st1 g1 H1 w1 x1 A1 => ?_, hx⟩
    cases k with
    | true => exact rdT_next A1 x1 w1 hq hx
    | false => exact hq _ _ _ _ w1 x1 A1
theorem sw_or {a b : Expr} {rest : List Expr} {ta tb : Ex} {pos : Pos} (ha : ST X ER Wx C a ta) (hb : SW X ER Wx C (.BoolOp .Or (b :: rest) pos) tb) : SW X ER Wx C (.BoolOp .Or (a :: b :: rest) pos) (.tOr ta tb) :=
  pwImp (pw_or ha hb) fun s H Q h => by
    obtain ⟨g, st, Qd, Xd, A, w, hq, hx⟩ := h
    simp only [wT] at w
    refine ⟨g, st, _, Xd, A, w, fun k st1 g1 H1 w1 x1 A1 => ?_, hx⟩
    cases k with
    | true => exact hq _ _ _ _ w1 x1 A1
    | false => exact rdT_next A1 x1 w1 hq hx
end
end Mp
/-! calls, where no repr is under way (A.guards is empty) -/
namespace Mp
open PySem PySem.Spec PyProof.Rows L2
structure RoomG (k : Nat) (A : Around) : Prop extends Room k A where
  gd : A.guards = some []
theorem RoomG.mono {j k : Nat} {A : Around} (r : RoomG k A) (h : j ≤ k) : RoomG j A := ⟨r.toRoom.mono h, r.gd⟩
theorem RoomG.in1 {k : Nat} {A : Around} (r : RoomG (k + 1) A) : RoomG k A.in1 := ⟨r.toRoom.in1, r.gd⟩
theorem RoomG.deeper {k : Nat} {A : Around} (r : RoomG (k + 1) A) (env : Env) : RoomG k (A.deeper env) := ⟨r.toRoom.deeper env, r.gd⟩
theorem RoomG.make {k : Nat} {A : Around} (r : RoomG (k + 1) A) (C : Addr) (us : List Value) (kw : List (Str × Value)) : RoomG k (A.under (.builtin "type.__call__" ⟨.ref C :: us, kw⟩)) :=
  ⟨r.toRoom.make C us kw, by
    have e : (Code.builtin "type.__call__" ⟨.ref C :: us, kw⟩).isGuard = false := by
      show guardIds.contains "type.__call__" = false
      decide +kernel
    simp [Around.under, Code.guards, e, pushGuards, r.gd]⟩
structure FnG (P : Program) (w : World) (K : PySem.W.Frag) (mg : Str → Option Value) (base : Heap) (CX : CXT) (k : Nat) (f : Addr) (fd : FuncData) (ps : List Str) (sp : Sp) : Prop where
  len : ∀ vs H Q E, sp vs H Q E → vs.length = ps.length
  run : ∀ (A : Around) (outer : List Env) (s : Shared) (H : Hp) (args : Args) (us : List Value) (vs : List V) (Q : VK) (E : XK), RoomG k A → Env0 P w K mg base A outer s H → BindsTo s fd args (ps.zip us) → Vals vs us → sp vs H Q E →
    codeAny (model P w) A (.call (.ref f) args) (CR CX outer P w H s Q E) s
theorem fnG_of {CX : CXT} {P : Program} {w : World} {K : PySem.W.Frag} {mg : Str → Option Value} {base : Heap} {k : Nat} {f : Addr} {name qual : Str} {params : Arguments} {body : List Stmt} {scope : Scope} {dV kV doc pm cdv ct oc : Value} {an od : Option Addr}
    {osl : Array (Option Value)} {N ps : List Str} {sp : Sp} (ilk : K.lookup f = some ⟨oc, od, .func (PySem.W.fnOf name qual params body scope dV kV doc pm an cdv ct), osl⟩) (icd : PySem.W.codeIn K cdv qual = true) (S : FnScope N ps scope)
    (ilen : ∀ vv H Q E, sp vv H Q E → vv.length = ps.length)
    (ibody : ∀ (A : Around) (out_ : List Env) (s : Shared) (H : Hp) (vv : List V) (Q : VK) (E : XK), RoomG k (A.deeper (envOfC qual scope s.heap.objs.size f cdv)) → sp vv H Q E →
      ∃ t, PSs (cxOf CX P w K mg base N qual scope f cdv A out_ s H E) body t ∧ t { nx := fun _ H' => Q .non H', rt := Q } (start N vv) H) :
    FnG P w K mg base CX (k + 1) f (PySem.W.fnOf name qual params body scope dV kV doc pm an cdv ct) ps sp := by
  refine ⟨ilen, fun A out_ s H args uu vv Q E hr e0 hb r isp => ?_⟩
  have il := ilen _ _ _ _ isp
  have iK : K.In s.heap := e0.mod.kin.keeps fun b o e => (e0.bs b o e).1
  have ilim : s.heap.NoLimit := e0.mod.nolimit.keeps fun b o e => (e0.bs b o e).1
  have ikind : ∀ y ∈ ps.zip uu, scope.names.lookup y.1 = some .local ∨ (scope.names.lookup y.1 = some .cell ∧ ((cellsFrom (s.heap.objs.size + 1) scope.names []).lookup y.1).isSome = true) := fun ⟨n, v⟩ hy => by
    rcases S.par n (List.of_mem_zip hy).1 with q | q
    · exact .inl q
    · exact .inr ⟨q, PySem.W.cellsFrom_some _ _ _ (.inl q)⟩
  refine codeAny_call_function hr.depth (iK _ _ ilk) rfl S.co S.gen rfl (PySem.W.codeRec_of iK icd) (hb _ _ _ _ ?_)
  refine wpAny_newFunctionEnv_cells S.kind ikind fun env he s1 x => ?_
  subst he
  refine ⟨ilim.keeps x.toInCall.keep, codeAny_func ?_⟩
  obtain ⟨t, ht, hq⟩ := ibody A out_ s H vv Q E (hr.deeper _) isp
  have I : Inv (cxOf CX P w K mg base N qual scope f cdv A out_ s H E) [] (start N vv) H s1 := inv_start S hr.hd e0 il r x
  refine wpAny_mono (ht.run [] s1 (start N vv) H _ I hq) (fun fl s' hs => ?_) fun e s' hs => hs
  have ifin : ∀ {σ' : L2.St} {H' : Hp} {v : V} {u : Value}, Inv (cxOf CX P w K mg base N qual scope f cdv A out_ s H E) [] σ' H' s' → RelV v u → Q v H' → CE out_ P w H s Q u s' :=
    fun {σ' H' v u} Jx rv q => ⟨v, H', Jx.os, Jx.bare, Jx.base, Jx.hok, rv, q⟩
  cases fl with
  | ret u =>
    obtain ⟨v, σ', H', Jx, rv, q⟩ := hs
    exact ifin Jx rv q
  | next =>
    obtain ⟨σ', H', Jx, q⟩ := hs
    exact ifin (v := V.non) (u := Value.none) Jx rfl q
  | brk =>
    obtain ⟨_, _, _, q⟩ := hs
    exact False.elim q
  | cont =>
    obtain ⟨_, _, _, q⟩ := hs
    exact False.elim q
theorem FunD.okG {P : Program} {w : World} {K : PySem.W.Frag} {mg : Str → Option Value} {base : Heap} {x qual : Str} {params : Arguments} {body : List Stmt} {scope : Scope} {dvs : List V} {kws : List (Str × V)} {f : Addr} {fd : FuncData} {CX : CXT} {N ps : List Str} {k : Nat} {sp : Sp} (F : FunD K x qual params body scope dvs kws f fd) (S : FnScope N ps scope) (ln : ∀ vs H Q E, sp vs H Q E → vs.length = ps.length)
    (hb : ∀ (cdv : Value) (A : Around) (outer : List Env) (s : Shared) (H : Hp) (vs : List V) (Q : VK) (E : XK), RoomG k (A.deeper (envOfC qual scope s.heap.objs.size f cdv)) → sp vs H Q E →
      ∃ t, PSs (cxOf CX P w K mg base N qual scope f cdv A outer s H E) body t ∧ t { nx := fun _ H' => Q .non H', rt := Q } (start N vs) H) : FnG P w K mg base CX (k + 1) f fd ps sp := by
  obtain ⟨oc, od, dV, kV, doc, pm, an, cdv, ct, osl, rfl, lk, hcd, _, _⟩ := F.ex
  exact fnG_of lk hcd S ln fun A outer s H vs Q E hr hsp => hb cdv A outer s H vs Q E hr hsp
theorem law_callG {P : Program} {w : World} {K : PySem.W.Frag} {mg mb : Str → Option Value} {CX : CXT} {k : Nat} {fa a : Addr} {fd : FuncData} {x : Str} {sp : Sp} {s1 : Shared} {vs : List Value} {ns : List Int}
    (iKX : K.In s1.heap) (ins : s1.heap.Ns mainGlobals mg) (ib : s1.heap.Ns builtinsNs mb) (ibb : ∀ x : Str, x ≠ "__name__" → mb x = bootBuiltins x) (ilim : s1.heap.NoLimit) (ig : s1.gens = #[])
    (ia : s1.heap.get? a = some { cls := .type "list", data := .seq vs.toArray }) (ii : IntsAre vs ns) (il : ns.length ≤ sizeLine) (ir : Room k callerA)
    (F : ∀ base : Heap, K.In base → base.Ns mainGlobals mg → FnG P w K mg base CX k fa fd [x] sp) (ibind : ∀ (s : Shared) (u : Value), BindsTo s fd ⟨[u], []⟩ [(x, u)])
    (isp : ∀ H : Hp, Only H → SqL K H a (ns.map V.int) → sp [.ref a] H (fun v _ => v = .bl true) fun _ _ _ => False)
    (iCX : ∀ H e s', CX [] H s1 (fun _ _ _ => False) e s' → False) :
    codeAny (model P w) callerA (.call (.ref fa) ⟨[.ref a], []⟩) (fun r s' => r = .ok (.ret (.bool true)) ∧ OldK s1.heap s'.heap ∧ s'.os = s1.os ∧ AllBare s'.gens) s1 := by
  have irv := vals_ints ii
  have ilen := ii.length
  -- from an abstract heap in which nothing but the script may be tracked
  have kern : ∀ H : Hp, Only H → SqL K H a (ns.map V.int) → HOk P w H s1.heap → (∀ b, H b ≠ none → b = a) → (H a ≠ none → K.lookup a = none) →
      codeAny (model P w) callerA (.call (.ref fa) ⟨[.ref a], []⟩) (fun r s' => r = .ok (.ret (.bool true)) ∧ OldK s1.heap s'.heap ∧ s'.os = s1.os ∧ AllBare s'.gens) s1 := by
    intro H iO iS iok iA iK
    have bof : ∀ {b : Addr} {o : Obj}, s1.heap.get? b = some o → H b = none → (hidT s1.heap H).get? b = some o := fun e n => hidT_get e n
    have noD : ∀ {b : Addr} {o : Obj} {es : Array DictEntry} {ep : Nat}, s1.heap.get? b = some o → o.data = .dict es ep → H b = none := fun {b o es ep} e d => by
      cases q : H b with
      | none => rfl
      | some u =>
        have e' : b = a := iA b (by rw [q]; simp)
        subst e'
        rw [ia] at e; cases e
        have d' : Data.seq vs.toArray _ = Data.dict es ep := d
        cases d'
    have nsJ : ∀ {b : Addr} {m : Str → Option Value}, s1.heap.Ns b m → (hidT s1.heap H).Ns b m := fun {b m} ⟨o, es, ep, e, d, r⟩ => ⟨o, es, ep, bof e (noD e d), d, r⟩
    have iKb : K.In (hidT s1.heap H) := fun b o e => bof (iKX b o e) (by
      cases q : H b with
      | none => rfl
      | some u =>
        have e' : b = a := iA b (by rw [q]; simp)
        subst e'
        rw [iK (by rw [q]; simp)] at e; cases e)
    have iM : Mod K mg (hidT s1.heap H) := ⟨iKb, nsJ ins, ⟨mb, nsJ ib, ibb⟩, let ⟨mc, h1, h2⟩ := ilim; ⟨mc, nsJ h1, h2⟩⟩
    have ie0 : Env0 P w K mg (hidT s1.heap H) callerA [] s1 H := ⟨rfl, iM, fun b o e => of_hidT e, Nat.le_of_eq (hidT_size _ _), trivial, fun b ib => absurd (show b ∈ ([] : List Addr) from ib) (by simp), iok, .of_eq ig⟩
    refine codeAny_mono ((F _ iKb (nsJ ins)).run callerA [] s1 H ⟨[.ref a], []⟩ [.ref a] [.ref a] _ _ ⟨ir, rfl⟩ ie0 (ibind s1 (.ref a)) (.cons rfl .nil) (isp H iO iS)) fun r s' h => ?_
    cases r with
    | error e => exact (iCX H e s' h).elim
    | ok fl =>
      cases fl with
      | next => exact False.elim h
      | brk => exact False.elim h
      | cont => exact False.elim h
      | ret u =>
        obtain ⟨v, H', os, bare, iun, iok', r', q⟩ := h
        have q' : v = .bl true := q
        subst q'
        obtain rfl : u = Value.bool true := r'
        refine ⟨rfl, OldK.of_keep fun b o e => ?_, os, bare⟩
        cases q : H b with
        | none => exact iun.keep b o e q (by intro z; exact absurd (show b ∈ ([] : List Addr) from z) (by simp)) (by simp)
        | some u =>
          rcases iO b with z | ⟨ob, xs, z⟩
          · rw [q] at z; cases z
          · have z2 := iun.frzs b ob _ z
            obtain ⟨e1, _⟩ := iok b _ z
            obtain ⟨e2, _⟩ := iok' b _ z2
            rw [e] at e1; cases e1
            exact e2
  cases ik : K.lookup a with
  | some o =>
    -- the script is one of the module's own objects
    have e := iKX a o ik
    rw [ia] at e
    cases e
    refine kern (fun _ => none) (fun _ => .inl rfl) (.inr ⟨_, vs.toArray, _, ik, rfl, rfl, rfl, by rw [List.size_toArray, ilen]; exact il, by simpa using irv⟩) (fun b u z => by have z' : (none : Option HO) = some u := z; cases z') (fun b z => absurd rfl z) fun z => absurd rfl z
  | none =>
    refine kern (fun b => if b = a then some (.frz { cls := .type "list", data := .seq vs.toArray } (.lst (ns.map V.int))) else none) (fun b => ?_) (.inl (.inr ⟨{ cls := .type "list", data := .seq vs.toArray }, if_pos rfl⟩)) (fun b u z => ?_) (fun b z => ?_) fun _ => ik
    · by_cases ib : b = a
      · exact .inr ⟨_, _, if_pos ib⟩
      · exact .inl (if_neg ib)
    · by_cases ib : b = a
      · have z' := (if_pos ib).symm.trans z
        cases z'
        subst ib
        exact ⟨ia, by rw [List.length_map]; exact il, vs, _, irv, ia⟩
      · have z' := (if_neg ib).symm.trans z
        cases z'
    · by_cases ib : b = a
      · exact ib
      · exact absurd (if_neg ib) z
section
variable {X : Cx} {CX : CXT} {k : Nat} {C p g a dx : Addr} {fs : List (Str × V)} {f : Str} {fd : FuncData} {ps : List Str} {sp : Sp} {dvs : List V} {ds : List Value} {E : XK} {e : Expr} {pos : Pos} {ta : TE}
theorem getpropG {pins : List (Addr × Obj)} {σ : L2.St} {H : Hp} {s : Shared} {Q : VK} {b : Bool} {E' : Value → Shared → Prop} (I : Inv X pins σ H s) (ie : H a = some (.ins C dx fs)) (c : Cls X.K C) (ip : PropOf X.K C f p g)
    (F : FnG X.prog X.w X.K X.mg X.base CX k g fd ps sp) (hr : RoomG (k + 1) X.A) (hb : Binds X.K fd ps ds) (hd : Vals dvs ds) (hx : Passes CX X.nox E) (h : sp (.ref a :: dvs) H Q E) :
    wpAny (model X.prog X.w) X.A (getAttr (.ref a) f b) (EP X pins σ Q) E' s := by
  obtain ⟨nA, O, _, _, _, _⟩ := ins_get I.hok ie
  obtain ⟨oD, J, _⟩ := O.look
  obtain ⟨rst, irec⟩ := ip.rec_
  have I1 := I.tok (s.toks + 1)
  have il : ([Value.ref a] ++ ds).length = ps.length := by
    rw [← F.len _ _ _ _ h]
    show ds.length + 1 = dvs.length + 1
    rw [hd.length]
  have ic : (PySem.W.clsIn X.K C).isSome = true := by
    obtain ⟨cd, ic, _⟩ := PySem.W.any_some c.hd
    rw [ic]
    rfl
  refine PySem.W.get_bind I.kIn J (PySem.W.plainGet_of (c.get f)).1 (PySem.W.findObj_data ic ip.at_ ip.get ip.tak) (PySem.W.plainGet_of (c.get f)).2 (wpAny_call (PySem.W.prop_get (s := { s with toks := s.toks + 1 }) I.kIn irec ?_))
  refine codeAny_mono (F.run X.A.in1 X.stack { s with toks := s.toks + 1 } H ⟨[.ref a], []⟩ (.ref a :: ds) (.ref a :: dvs) Q E hr.in1 I1.env0.in1 (hb _ [.ref a] I1.kIn il) (.cons rfl hd) h) fun r s' hq => ?_
  cases r with
  | error er => exact False.elim (hx pins σ H { s with toks := s.toks + 1 } er s' (I1.wish _) hq)
  | ok fl =>
    cases fl with
    | ret u =>
      obtain ⟨v, H', I3, rv, q3⟩ := I1.after hq
      show wpAny _ _ (handedOut u) _ _ _
      rw [PySem.W.handedOut_of (handed_of rv)]
      exact wpAny_pure ⟨v, H', I3, rv, q3⟩
    | next => exact False.elim hq
    | brk => exact False.elim hq
    | cont => exact False.elim hq

/-- e.f -/
theorem pe_propG (ie : PE X e ta) (c : Cls X.K C) (hp : PropOf X.K C f p g) (F : FnG X.prog X.w X.K X.mg X.base CX k g fd ps sp) (hr : RoomG (k + 1) X.A) (hb : Binds X.K fd ps ds) (hd : Vals dvs ds) (hx : Passes CX X.nox E)
    (iab : attributeBase e f X.env (eval e X.env) = eval e X.env) : PE X (.Attribute e f pos) (tProp C sp dvs E ta) := by
  refine ⟨fun pins s σ H Q I h => ?_⟩
  refine attr_of iab (thn (ie.run pins s σ H _ I h) fun u s1 ⟨x, H1, I1, irx, a, dx, fs, ex, ea, q⟩ => ?_)
  subst ex
  obtain rfl : u = Value.ref a := irx
  exact getpropG I1 ea c hp F hr hb hd hx q
end
end Mp
namespace Mp
open PySem PySem.Spec L2

/-- the cells alone -/
def AbsC (K : Kc) (g : Gh) (h : List CO) (H : Hp) : Prop := Abs K g ⟨[], h⟩ [] H
/-- what a function promises: what C says of it -/
def RepC (K : Kc) (g : Gh) (h : List CO) (H : Hp) : Bool → D → V → Prop
  | false, d, v => Rep K g h.length H d v
  | true, d, v => (∃ a, v = .ref a ∧ g.M a ∧ OwR K g h.length H a d ∧ ∀ l, Live h l → g.io l ≠ a) ∨ (scalD d = true ∧ Rep K g h.length H d v)
def spF (K : Kc) (ER : ExT) (C : Calls) (m : Bool) (f np : Nat) : Sp := fun vs H Q E => ∃ (g : Gh) (h : List CO) (ds : List D) (Qd : D → List CO → Prop) (Xd : Nat → List D → List CO → Prop),
  ds.length = np ∧ AbsC K g h H ∧ Reps K g h.length H ds vs ∧ C f ds h Qd Xd ∧
  (∀ d h' v g' H', Qd d h' → Ext g h.length H g' h'.length H' → AbsC K g' h' H' → RepC K g' h' H' m d v → Q v H') ∧
  (∀ c fs h' cls dd g' H', Xd c fs h' → Ext g h.length H g' h'.length H' → AbsC K g' h' H' → ER g' h'.length H' c fs cls dd → E cls dd H')
theorem spF_len {K : Kc} {ER : ExT} {C : Calls} {m : Bool} {f np : Nat} {ps : List Str} (hn : ps.length = np) : ∀ vs H Q E, spF K ER C m f np vs H Q E → vs.length = ps.length := by
  rintro vs H Q E ⟨g, h, ds, Qd, Xd, hl, _, r, _⟩
  rw [r.length, hl, hn]
/-- an exception's record looks at W and the numbers alone -/
def ExOk (ER : ExT) : Prop := ∀ g g' n H c fs cls dd, (∀ a, g'.W a ↔ g.W a) → (∀ l, g'.io l = g.io l) → ER g n H c fs cls dd → ER g' n H c fs cls dd

section
variable {K : Kc} {g : Gh} {st : Stt} {s : L2.St} {H : Hp}
/-- what the callee sees: cells may change, the caller's own containers not -/
def Gh.callee (g : Gh) (h : List CO) : Gh := ⟨g.io, g.W, fun a => ∃ l, Live h l ∧ a = g.io l⟩
def Gh.back (g' : Gh) (e : List Sl) (s : L2.St) : Gh := ⟨g'.io, g'.W, fun a => g'.M a ∨ ∃ i, OwnAt e s i a⟩
theorem CeR.m {n : Nat} {a : Addr} : ∀ {c : CO}, CeR K g n H a c → c ≠ .dead → g.M a
  | .dead, _, h => absurd rfl h
  | .lst _, h, _ => h.1
  | .dic _ _, h, _ => h.1
  | .obj _ _, h, _ => h.1
theorem Abs.live_m (A : Abs K g st s H) {l : Nat} (h : Live st.h l) : g.M (g.io l) := by
  obtain ⟨o, h1, h2⟩ := h
  exact (A.ce l o h1).m h2
theorem Abs.callee (A : Abs K g st s H) : AbsC K (g.callee st.h) st.h H := by
  have k : Kp g st.h.length H (g.callee st.h) st.h.length H := Kp.sameW (fun _ => Iff.rfl) fun _ => rfl
  refine ⟨fun a ⟨l, hl, e⟩ => by subst e; exact A.mw _ (A.live_m hl), A.wt, fun i x e => by simp at e, fun i j a h => ?_, fun i a l h => ?_, fun l o h => ?_, A.cc⟩
  · obtain ⟨⟨d, e⟩, _⟩ := h; simp at e
  · obtain ⟨⟨d, e⟩, _⟩ := h; simp at e
  · by_cases hd : o = .dead
    · subst hd; trivial
    · exact CeR.kp k (fun _ z => z) (fun _ => ⟨l, ⟨o, h, hd⟩, rfl⟩) (A.ce l o h)
/-- the caller's state behind a call -/
theorem Abs.back {g' : Gh} {h' : List CO} {H' : Hp} (A : Abs K g st s H) (x : Ext (g.callee st.h) st.h.length H g' h'.length H') (A' : AbsC K g' h' H') :
    Abs K (g'.back st.e s) ⟨st.e, h'⟩ s H' ∧ Ext g st.h.length H (g'.back st.e s) h'.length H' ∧ ∀ i a, OwnAt st.e s i a → ¬ g'.M a := by
  have ownM : ∀ i a, OwnAt st.e s i a → g.M a := fun i a ⟨⟨d, h1⟩, h2⟩ => by
    obtain ⟨ov, e1, b, e2, m, _⟩ := A.sl i _ h1
    rw [h2] at e1; cases e1; cases e2; exact m
  have ownN : ∀ i a, OwnAt st.e s i a → ¬ (g.callee st.h).M a := fun i a h ⟨l, hl, e⟩ => A.oc i a l h hl e.symm
  have ownH : ∀ i a, OwnAt st.e s i a → ∃ o, H a = some o := fun i a h => A.wt a (A.mw a (ownM i a h))
  have kc : Kp (g.callee st.h) st.h.length H g' h'.length H' := x.kp A.callee.mw
  have k : Kp g st.h.length H (g'.back st.e s) h'.length H' := ⟨kc.keep, kc.io, kc.le⟩
  have k2 : Kp g' h'.length H' (g'.back st.e s) h'.length H' := Kp.sameW (fun _ => Iff.rfl) fun _ => rfl
  refine ⟨⟨fun a m => ?_, A'.wt, fun i z e => ?_, A.oo, fun i a l h hl e => ?_, fun l o e => CeR.kp k2 (fun _ z => z) .inl (A'.ce l o e), A'.cc⟩, ⟨fun a o h m => x.keep a o h ?_, fun a o h m => x.stay a o h ?_, fun a o h m z => ?_, x.io, x.le⟩, fun i a h z => ?_⟩
  · rcases m with m | ⟨i, h⟩
    · exact A'.mw a m
    · obtain ⟨o, ho⟩ := ownH i a h
      exact (x.stay a o ho (ownN i a h)).mpr (A.mw a (ownM i a h))
  · obtain ⟨ov, e1, r⟩ := A.sl i z e
    refine ⟨ov, e1, ?_⟩
    cases z with
    | un => trivial
    | exc c d => exact r.kpE k
    | shr d => obtain ⟨v, e2, r⟩ := r; exact ⟨v, e2, r.kp k⟩
    | own d =>
      obtain ⟨a, e2, m, r⟩ := r
      have ow : OwnAt st.e s i a := ⟨⟨d, e⟩, by rw [e1, e2]⟩
      exact ⟨a, e2, .inr ⟨i, ow⟩, r.kp k fun o ho => x.keep a o ho (ownN i a ow)⟩
  · obtain ⟨o, ho⟩ := ownH i a h
    obtain ⟨o', h1, h2⟩ := hl
    have m' : g'.M (g'.io l) := (A'.ce l o' h1).m h2
    have e' : g'.io l = a := e
    rw [e'] at m'
    exact x.stayM a o ho (ownN i a h) m'
  · exact fun ⟨l, hl, e⟩ => m (by rw [e]; exact A.live_m hl)
  · exact fun ⟨l, hl, e⟩ => m (by rw [e]; exact A.live_m hl)
  · have nc : ¬ (g.callee st.h).M a := fun ⟨l, hl, e⟩ => m (by rw [e]; exact A.live_m hl)
    rcases z with z | ⟨i, z⟩
    · exact x.stayM a o h nc z
    · exact m (ownM i a z)
  · obtain ⟨o, ho⟩ := ownH i a h
    exact x.stayM a o ho (ownN i a h) z
end

/-! ### arguments in the parameters' order -/
def conV : D → Option V
  | .non => some .non
  | .bl b => some (.bl b)
  | .int i => some (.int i)
  | .str x => some (.str x)
  | _ => none
def arrV (dv : D → V) (ar : List (Sum Nat D)) (vs : List V) : List V := ar.map fun a => match a with
  | .inl i => vs.getD i .non
  | .inr d => dv d
def arOk (n : Nat) (ar : List (Sum Nat D)) : Bool := ar.all fun a => match a with
  | .inl i => decide (i < n)
  | .inr _ => true
/-- the defaults stand for these data -/
def DvOk (K : PySem.W.Frag) (dv : D → V) (ar : List (Sum Nat D)) : Prop := ∀ d, Sum.inr d ∈ ar → ∀ x g n H, Rep ⟨K, x⟩ g n H d (dv d)
theorem Rep.con {K : Kc} {g : Gh} {n : Nat} {H : Hp} {d : D} {v : V} (h : conV d = some v) : Rep K g n H d v := by
  cases d <;> first | (cases h; rfl) | cases h
theorem Reps.arr {K : Kc} {g : Gh} {n : Nat} {H : Hp} {ds : List D} {vs : List V} {dv : D → V} (r : Reps K g n H ds vs) : ∀ {ar : List (Sum Nat D)}, DvOk K.K dv ar → arOk ds.length ar = true → Reps K g n H (arr ar ds) (arrV dv ar vs)
  | [], _, _ => rfl
  | .inl i :: ar, hd, h => by
    have h' : i < ds.length ∧ arOk ds.length ar = true := by simpa [arOk] using h
    have e : ds[i]? = some (ds[i]'h'.1) := List.getElem?_eq_getElem h'.1
    obtain ⟨v, e1, r1⟩ := r.get e
    refine ⟨v, arrV dv ar vs, ?_, ?_, Reps.arr r (fun d hm => hd d (List.mem_cons_of_mem _ hm)) h'.2⟩
    · show vs.getD i .non :: arrV dv ar vs = v :: arrV dv ar vs
      rw [List.getD_eq_getElem?_getD, e1]
      rfl
    · show Rep K g n H (ds.getD i .non) v
      rw [List.getD_eq_getElem?_getD, e]
      exact r1
  | .inr d :: ar, hd, h => by
    have h' : arOk ds.length ar = true := by simpa [arOk] using h
    exact ⟨dv d, arrV dv ar vs, rfl, hd d List.mem_cons_self _ g n H, Reps.arr r (fun d hm => hd d (List.mem_cons_of_mem _ hm)) h'⟩

/-! ### keywords -/
theorem kw_names (kws : List Keyword) (pos : Pos) (env : Env) : (backToKw pos (keywordEach kws env)).filterMap (·.1) = kws.filterMap (·.arg) := by
  induction kws with
  | nil => rfl
  | cons k r ih =>
    obtain ⟨a, v, p⟩ := k
    show List.filterMap (·.1) ((a, _) :: backToKw pos (keywordEach r env)) = _
    cases a with
    | none => exact ih
    | some n => exact congrArg (n :: ·) ih
theorem kw_all {kws : List Keyword} (h : kws.all (·.arg.isSome) = true) (pos : Pos) (env : Env) : (backToKw pos (keywordEach kws env)).all (·.1.isSome) = true ∧ (backToKw pos (keywordEach kws env)).any (·.1.isNone) = false := by
  induction kws with
  | nil => exact ⟨rfl, rfl⟩
  | cons k r ih =>
    obtain ⟨a, v, p⟩ := k
    have h' : a.isSome = true ∧ r.all (·.arg.isSome) = true := by simpa only [List.all_cons, Bool.and_eq_true] using h
    obtain ⟨i1, i2⟩ := ih h'.2
    refine ⟨?_, ?_⟩
    · show (a.isSome && (backToKw pos (keywordEach r env)).all (·.1.isSome)) = true
      rw [h'.1, i1]; rfl
    · show (a.isNone || (backToKw pos (keywordEach r env)).any (·.1.isNone)) = false
      rw [i2]
      cases a with
      | none => cases h'.1
      | some _ => rfl

section
variable {X : Cx} {ER : ExT} {Wx : WX} {C : Calls} {m : Bool}
def SK (X : Cx) (ER : ExT) (Wx : WX) (C : Calls) (kws : List Keyword) (ts : List Ex) : Prop := PK X kws (rdL (kz X) ER Wx ts.length (wL C ts))
theorem pkImp {kws : List Keyword} {u u' : TA} (h : PK X kws u) (i : ∀ s H Q, u' s H Q → u s H Q) : PK X kws u' := ⟨fun pos pins s σ H Q I q => h.run pos pins s σ H Q I (i σ H Q q)⟩
theorem sk_nil : SK X ER Wx C [] [] := pkImp pk_nil fun s H Q h => splitL_nil h
theorem sk_cons {nm : Option Str} {e : Expr} {p : Pos} {kws : List Keyword} {t : Ex} {ts : List Ex} (h : SE X ER Wx C e t false) (hs : SK X ER Wx C kws ts) : SK X ER Wx C (⟨nm, e, p⟩ :: kws) (t :: ts) :=
  pkImp (pk_cons h hs) fun s H Q h => splitL_cons h
theorem wL_append : ∀ (ts us : List Ex) (st : Stt) (Q : List D → Stt → Prop) (Z : PX), wL C (ts ++ us) st Q Z = wL C ts st (fun ds st1 => wL C us st1 (fun es st2 => Q (ds ++ es) st2) Z) Z
  | [], us, st, Q, Z => by simp only [List.nil_append, wL]
  | t :: ts, us, st, Q, Z => by
    simp only [List.cons_append, wL]
    congr 1
    funext d st1
    rw [wL_append ts us st1]
theorem splitL_append {ts us : List Ex} {s : L2.St} {H : Hp} {Q : List V → Hp → Prop} {K : Kc} (h : rdL K ER Wx (ts ++ us).length (wL C (ts ++ us)) s H Q) : rdL K ER Wx ts.length (wL C ts) s H fun vs H1 => rdL K ER Wx us.length (wL C us) s H1 fun zs H2 => vs.length = ts.length ∧ zs.length = us.length ∧ Q (vs ++ zs) H2 := by
  obtain ⟨g, st, Qd, Xd, A, w, hq, hx⟩ := h
  rw [wL_append] at w
  refine ⟨g, st, _, Xd, A, w, fun ds st1 vs g1 H1 w1 x1 A1 r1 l1 => ⟨g1, st1, _, Xd, A1, w1, fun es st2 zs g2 H2 w2 x2 A2 r2 l2 => ⟨l1, l2, ?_⟩, fun c fs st2 cls dd g2 H2 q x2 A2 r2 => hx _ _ _ _ _ _ _ q (x1.trans x2) A2 r2⟩, hx⟩
  exact hq _ _ _ _ _ w2 (x1.trans x2) A2 ((r1.kp (x2.kp A1.mw)).append r2) (by rw [List.length_append, List.length_append, l1, l2])
/-- the callee's promise from the call's wish -/
theorem rdE_call {f np : Nat} {ts : List Ex} {ar : List (Sum Nat D)} {s : L2.St} {H : Hp} {Q : VK} {K : Kc} {dv : D → V} (hE : ExOk ER) (hdv : DvOk K.K dv ar) (har : arOk ts.length ar = true) (hnp : ar.length = np) (h : rdE K ER Wx (wE C (.call f ts ar)) m s H Q) :
    rdL K ER Wx ts.length (wL C ts) s H fun vs H1 => spF K ER C m f np (arrV dv ar vs) H1 Q (WE Wx s) := by
  obtain ⟨g, st, Qd, Xd, A, w, hq, hx⟩ := h
  simp only [wE] at w
  refine ⟨g, st, _, Xd, A, w, fun ds st1 vs g1 H1 w1 x1 A1 r1 hl => ?_, hx⟩
  have hl' : ds.length = ts.length := by rw [← r1.length]; exact hl
  have kc : Kp g1 st1.h.length H1 (g1.callee st1.h) st1.h.length H1 := Kp.sameW (fun _ => Iff.rfl) fun _ => rfl
  refine ⟨g1.callee st1.h, st1.h, _, _, _, ?_, A1.callee, (r1.arr hdv (by rw [hl']; exact har)).kp kc, w1, fun d h' v g' H' q x A' r => ?_, fun c fs h' cls dd g' H' q x A' r => ?_⟩
  · show (ar.map _).length = np
    rw [List.length_map, hnp]
  · obtain ⟨A2, x2, no⟩ := A1.back x A'
    have k2 : Kp g' h'.length H' (g'.back st1.e s) h'.length H' := Kp.sameW (fun _ => Iff.rfl) fun _ => rfl
    refine hq _ _ _ _ _ q (x1.trans x2) A2 ?_
    cases m with
    | false => exact Rep.kp k2 r
    | true =>
      rcases r with ⟨a, e, ma, ow, nl⟩ | ⟨sc, r⟩
      · exact .inl ⟨a, e, .inl ma, ow.kp k2 fun _ z => z, fun i z => no i a z ma, nl⟩
      · exact .inr ⟨sc, Rep.kp k2 r⟩
  · obtain ⟨A2, x2, _⟩ := A1.back x A'
    exact hx _ _ _ _ _ _ _ q (x1.trans x2) A2 (hE g' (g'.back st1.e s) _ _ _ _ _ _ (fun _ => Iff.rfl) (fun _ => rfl) r)
/-- how a call's arguments come to the parameters -/
structure Shp (K : PySem.W.Frag) (fd : FuncData) (ps : List Str) (n : Nat) (ks : List Str) (ar : List (Sum Nat D)) : Prop where
  ex : ∃ (gg : List Value → List Value → List Value) (gV : List V → List V → List V) (dv : D → V), KBn K fd ps n ks gg gV ∧ DvOk K dv ar ∧ ∀ vs zs, vs.length = n → zs.length = ks.length → gV vs zs = arrV dv ar (vs ++ zs)
theorem run_call {CX : CXT} {k n : Nat} {f : Addr} {fd : FuncData} {ps ks : List Str} {sp : Sp} {E : XK} {gg : List Value → List Value → List Value} {gV : List V → List V → List V} {pins : List (Addr × Obj)} {σ : L2.St} {H : Hp} {s : Shared} {Q : VK} {us ws : List Value} {vs zs : List V}
    (F : FnG X.prog X.w X.K X.mg X.base CX k f fd ps sp) (hr : RoomG k X.A) (hb : KBn X.K fd ps n ks gg gV) (hx : PassesAt CX X σ E)
    (I : Inv X pins σ H s) (r : Vals vs us) (rz : Vals zs ws) (l1 : vs.length = n) (l2 : zs.length = ks.length) (h : sp (gV vs zs) H Q E) : wpAny (model X.prog X.w) X.A (call (.ref f) us (ks.zip ws)) (EP X pins σ Q) X.xe s := by
  have r2 := hb.rel r rz
  refine wpAny_call (codeAny_mono (F.run X.A X.stack s H ⟨us, ks.zip ws⟩ (gg us ws) (gV vs zs) Q E hr I.env0 (hb.to s us ws I.kIn (r.length.symm.trans l1) (rz.length.symm.trans l2)) r2 h) fun r s' hq => ?_)
  cases r with
  | error e => exact hx pins H s e s' I hq
  | ok fl =>
    cases fl with
    | ret u => exact I.after hq
    | next => exact False.elim hq
    | brk => exact False.elim hq
    | cont => exact False.elim hq
/-- f(.., k = v, ..), f a def of the module -/
theorem se_call {k n np : Nat} {fx : Addr} {fd : FuncData} {ps ks : List Str} {f : Nat} {x : Str} {p pos : Pos} {es : List Expr} {kws : List Keyword} {ts us : List Ex} {ar : List (Sum Nat D)}
    (hcalm : X.calm = true) (F : FnG X.prog X.w X.K X.mg X.base (L2.CX X.prog X.w) k fx fd ps (spF ⟨X.K, none⟩ ER C m f np)) (hr : RoomG k X.A) (hg : Gl X x) (hm : X.mg x = some (.ref fx)) (hk : PySem.W.keepIn X.K (.ref fx) = true) (hd : (x == ("__debug__" : Str)) = false)
    (hs : Shp X.K fd ps es.length ks ar) (hks : kws.filterMap (·.arg) = ks) (hkl : kws.length = ks.length) (tk : Takes X Wx) (hE : ExOk ER) (har : arOk (ts ++ us).length ar = true) (hnp : ar.length = np) (hl1 : ts.length = es.length) (hl2 : us.length = kws.length)
    (ha : SL X ER Wx C es ts) (hkw : SK X ER Wx C kws us) (hst : es.all notStar = true) (hka : kws.all (·.arg.isSome) = true) : SE X ER Wx C (.Call (.Name x p) es kws pos) (.call f (ts ++ us) ar) m := by
  have ek : (⟨X.K, none⟩ : Kc) = kz X := by unfold kz; rw [hcalm]; rfl
  rw [ek] at F
  obtain ⟨gg, gV, dv, hb, hdv, hgV⟩ := hs.ex
  refine ⟨fun pins s σ H Q I h => ?_⟩
  have h1 := splitL_append (rdE_call (dv := dv) hE hdv har hnp h)
  refine wpAny_Call_Name_kw (ld_glob I hg hm ?_ hd)
  obtain ⟨ka, kn⟩ := kw_all hka pos X.env
  have fin : ∀ {vs : List V} {vals : List Value} {s1 : Shared} {H1 : Hp}, Inv X pins σ H1 s1 → Vals vs vals →
      rdL (kz X) ER Wx us.length (wL C us) σ H1 (fun zs H2 => vs.length = ts.length ∧ zs.length = us.length ∧ spF (kz X) ER C m f np (arrV dv ar (vs ++ zs)) H2 Q (WE Wx σ)) →
      wpAny (model X.prog X.w) X.A (evalAll ((backToKw pos (keywordEach kws X.env)).map (·.2))) (fun ws s2 => X.K.In s2.heap ∧ wpAny (model X.prog X.w) X.A (call (.ref fx) ([] ++ vals) (((backToKw pos (keywordEach kws X.env)).filterMap (·.1)).zip ws)) (EP X pins σ Q) X.xe s2) X.xe s1 := by
    intro vs vals s1 H1 I1 r1 q1
    refine thn (hkw.run pos pins s1 σ H1 _ I1 q1) fun ws s2 ⟨zs, H2, I2, rz, lv, lz, q2⟩ => ⟨I2.kIn, ?_⟩
    rw [kw_names, hks, List.nil_append]
    have lv' : vs.length = es.length := by rw [lv, hl1]
    have lz' : zs.length = ks.length := by rw [lz, hl2, hkl]
    refine run_call F hr hb (passAt tk σ) I2 r1 rz lv' lz' ?_
    rw [hgV vs zs lv' lz']
    exact q2
  cases es with
  | nil =>
    cases ts with
    | cons _ _ => cases hl1
    | nil => exact PySem.W.callWith_KW0 (h₀ := X.base) I.ok.mod.kin hk ka (fin I .nil (splitL_nil h1)) (by rw [kn]; rfl)
  | cons e es =>
    have h' : notStar e = true ∧ es.all notStar = true := by simpa only [List.all_cons, Bool.and_eq_true] using hst
    refine PySem.W.callWith_KW (h₀ := X.base) I.ok.mod.kin hk ka (thn (ha.run pos pins s σ H _ I h1) fun vals s1 ⟨vs, H1, I1, r, q⟩ => fin I1 r q) (by rw [kn, star_any hst]; rfl) (star_of h'.1 _ _)
end
end Mp
namespace Mp
open PySem PySem.Spec L2

section
variable {K : Kc} {g : Gh} {st : Stt} {s : L2.St} {H : Hp}
/-- the address of an own slot, of a cell is held by nobody else -/
theorem Kp.write {n : Nat} {a : Addr} (hw : g.W a) (o : HO) : Kp g n H g n (upd H a o) :=
  ⟨fun b u h w => ⟨by rw [upd_ne (fun e => w (by rw [e]; exact hw))]; exact h, w⟩, fun _ _ => rfl, Nat.le_refl _⟩
theorem Ext.write {n : Nat} {a : Addr} (hm : g.M a) (o : HO) : Ext g n H g n (upd H a o) :=
  ⟨fun b u h m => by rw [upd_ne (fun e => m (by rw [e]; exact hm))]; exact h, fun _ _ _ _ => Iff.rfl, fun _ _ _ m => m, fun _ _ => rfl, Nat.le_refl _⟩
/-- an own list is changed -/
theorem Abs.writeO (A : Abs K g st s H) {i : Nat} {a : Addr} {d d' : D} (hi : st.e[i]? = some (.own d)) (hs : s[i]? = some (some (.ref a))) (o : HO) (hn : OwR K g st.h.length (upd H a o) a d') :
    Abs K g ⟨st.e.set i (.own d'), st.h⟩ s (upd H a o) ∧ Ext g st.h.length H g st.h.length (upd H a o) := by
  obtain ⟨ov, e1, b, e2, m, r⟩ := A.sl i _ hi
  rw [hs] at e1; cases e1; cases e2
  have hw := A.mw a m
  have k : Kp g st.h.length H g st.h.length (upd H a o) := Kp.write hw o
  have hlt : i < st.e.length := by
    rcases Nat.lt_or_ge i st.e.length with h | h
    · exact h
    · rw [List.getElem?_eq_none h] at hi; cases hi
  have ow : OwnAt st.e s i a := ⟨⟨d, hi⟩, hs⟩
  have own_of : ∀ j b, OwnAt (st.e.set i (.own d')) s j b → OwnAt st.e s j b := fun j b ⟨⟨d2, h1⟩, h2⟩ => by
    by_cases hj : j = i
    · subst hj; exact ⟨⟨d, hi⟩, h2⟩
    · rw [List.getElem?_set_ne (Ne.symm hj)] at h1; exact ⟨⟨d2, h1⟩, h2⟩
  refine ⟨⟨A.mw, fun b w => ?_, fun j x h => ?_, fun j j' b h1 h2 => A.oo j j' b (own_of j b h1) (own_of j' b h2), fun j b l h1 h2 => A.oc j b l (own_of j b h1) h2, fun l c h => ?_, A.cc⟩, Ext.write m o⟩
  · by_cases e : b = a
    · subst e; exact ⟨o, upd_same⟩
    · obtain ⟨u, h⟩ := A.wt b w
      exact ⟨u, by rw [upd_ne e]; exact h⟩
  · by_cases hj : j = i
    · subst hj
      rw [List.getElem?_set_self hlt] at h
      cases h
      exact ⟨_, hs, a, rfl, m, hn⟩
    · rw [List.getElem?_set_ne (Ne.symm hj)] at h
      obtain ⟨ov, f1, q⟩ := A.sl j x h
      refine ⟨ov, f1, ?_⟩
      cases x with
      | un => trivial
      | exc c0 d0 => exact SlR.kpE k (by assumption)
      | shr d2 => obtain ⟨v, f2, q⟩ := q; exact ⟨v, f2, q.kp k⟩
      | own d2 =>
        obtain ⟨b, f2, m', q⟩ := q
        have nb : b ≠ a := fun z => hj (A.oo j i b ⟨⟨d2, h⟩, by rw [f1, f2]⟩ (by rw [z]; exact ow))
        exact ⟨b, f2, m', q.kp k fun _ z => by rw [upd_ne nb]; exact z⟩
  · by_cases hd : c = .dead
    · subst hd; trivial
    · exact CeR.kp k (fun _ z => by rw [upd_ne (A.oc i a l ow ⟨c, h, hd⟩)]; exact z) id (A.ce l c h)
/-- a cell is changed -/
theorem Abs.writeC (A : Abs K g st s H) {l : Nat} {c c' : CO} (hl : st.h[l]? = some c) (hd : c ≠ .dead) (hd' : c' ≠ .dead) (o : HO) (hn : CeR K g st.h.length (upd H (g.io l) o) (g.io l) c') :
    Abs K g ⟨st.e, st.h.set l c'⟩ s (upd H (g.io l) o) ∧ Ext g st.h.length H g (st.h.set l c').length (upd H (g.io l) o) := by
  have lv : Live st.h l := ⟨c, hl, hd⟩
  have m := A.live_m lv
  have hw := A.mw _ m
  have el : (st.h.set l c').length = st.h.length := List.length_set
  have k : Kp g st.h.length H g (st.h.set l c').length (upd H (g.io l) o) := by rw [el]; exact Kp.write hw o
  have hlt : l < st.h.length := by
    rcases Nat.lt_or_ge l st.h.length with h | h
    · exact h
    · rw [List.getElem?_eq_none h] at hl; cases hl
  have live_of : ∀ j, Live (st.h.set l c') j → Live st.h j := fun j ⟨o', h1, h2⟩ => by
    by_cases hj : j = l
    · subst hj; exact lv
    · rw [List.getElem?_set_ne (Ne.symm hj)] at h1; exact ⟨o', h1, h2⟩
  refine ⟨⟨A.mw, fun b w => ?_, fun j x h => ?_, A.oo, fun j b i h1 h2 => A.oc j b i h1 (live_of i h2), fun j c2 h => ?_, fun i j h1 h2 => A.cc i j (live_of i h1) (live_of j h2)⟩, by rw [el]; exact Ext.write m o⟩
  · by_cases e : b = g.io l
    · subst e; exact ⟨o, upd_same⟩
    · obtain ⟨u, h⟩ := A.wt b w
      exact ⟨u, by rw [upd_ne e]; exact h⟩
  · obtain ⟨ov, f1, q⟩ := A.sl j x h
    refine ⟨ov, f1, ?_⟩
    cases x with
    | un => trivial
    | exc c0 d0 => exact SlR.kpE k (by assumption)
    | shr d2 => obtain ⟨v, f2, q⟩ := q; exact ⟨v, f2, q.kp k⟩
    | own d2 =>
      obtain ⟨b, f2, m', q⟩ := q
      have nb : b ≠ g.io l := fun z => A.oc j b l ⟨⟨d2, h⟩, by rw [f1, f2]⟩ lv z.symm
      exact ⟨b, f2, m', q.kp k fun _ z => by rw [upd_ne nb]; exact z⟩
  · by_cases hj : j = l
    · subst hj
      have e : (st.h.set j c')[j]? = some c' := List.getElem?_set_self hlt
      have h' : (st.h.set j c')[j]? = some c2 := h
      rw [e] at h'
      cases h'
      show CeR K g (st.h.set j c').length _ _ _
      rw [el]
      exact hn
    · have h' : (st.h.set l c')[j]? = some c2 := h
      rw [List.getElem?_set_ne (Ne.symm hj)] at h'
      by_cases hd2 : c2 = .dead
      · subst hd2; trivial
      · exact CeR.kp k (fun _ z => by rw [upd_ne (fun e => hj (A.cc j l ⟨c2, h', hd2⟩ lv e))]; exact z) id (A.ce j c2 h')
/-- a container that nobody holds becomes a cell -/
theorem Abs.cell (A : Abs K g st s H) {a : Addr} {c : CO} (r : CeR K g st.h.length H a c) (hd : c ≠ .dead) (no : ∀ i, ¬ OwnAt st.e s i a) (nc : ∀ l, Live st.h l → g.io l ≠ a) :
    ∃ g', Abs K g' ⟨st.e, st.h ++ [c]⟩ s H ∧ Ext g st.h.length H g' (st.h ++ [c]).length H ∧ Rep K g' (st.h ++ [c]).length H (.cell st.h.length) (.ref a) ∧ g'.io st.h.length = a ∧ (∀ b, g'.W b ↔ g.W b) ∧ ∀ b, g'.M b ↔ g.M b := by
  have el : (st.h ++ [c]).length = st.h.length + 1 := by simp
  let g' : Gh := ⟨fun l => if l = st.h.length then a else g.io l, g.W, g.M⟩
  have io' : ∀ l, l < st.h.length → g'.io l = g.io l := fun l h => if_neg (Nat.ne_of_lt h)
  have ioN : g'.io st.h.length = a := if_pos rfl
  have k : Kp g st.h.length H g' (st.h ++ [c]).length H := ⟨fun b u h w => ⟨h, w⟩, io', by rw [el]; exact Nat.le_succ _⟩
  have at_of : ∀ (l : Nat) (c' : CO), (st.h ++ [c])[l]? = some c' → (l < st.h.length ∧ st.h[l]? = some c') ∨ (l = st.h.length ∧ c' = c) := fun l c' h => by
    rcases Nat.lt_trichotomy l st.h.length with h1 | h1 | h1
    · rw [List.getElem?_append_left h1] at h; exact .inl ⟨h1, h⟩
    · subst h1
      rw [List.getElem?_append_right (Nat.le_refl _), Nat.sub_self] at h
      exact .inr ⟨rfl, (Option.some.inj h).symm⟩
    · rw [List.getElem?_eq_none (by rw [el]; exact h1)] at h; cases h
  have live_of : ∀ l, Live (st.h ++ [c]) l → (l < st.h.length ∧ Live st.h l) ∨ l = st.h.length := fun l ⟨c', h1, h2⟩ => by
    rcases at_of l c' h1 with ⟨z1, z2⟩ | ⟨z, _⟩
    · exact .inl ⟨z1, c', z2, h2⟩
    · exact .inr z
  refine ⟨g', ⟨A.mw, A.wt, fun j x h => ?_, A.oo, fun j b l h1 h2 e => ?_, fun l c' h => ?_, fun i j h1 h2 e => ?_⟩, ⟨fun _ _ h _ => h, fun _ _ _ _ => Iff.rfl, fun _ _ _ z => z, io', by rw [el]; exact Nat.le_succ _⟩, ⟨by rw [el]; exact Nat.lt_succ_self _, by rw [ioN]⟩, ioN, fun _ => Iff.rfl, fun _ => Iff.rfl⟩
  · obtain ⟨ov, f1, q⟩ := A.sl j x h
    exact ⟨ov, f1, q.kp k fun _ _ m h => ⟨h, m⟩⟩
  · rcases live_of l h2 with ⟨z1, z2⟩ | z
    · rw [io' l z1] at e; exact A.oc j b l h1 z2 e
    · subst z; rw [ioN] at e; subst e; exact no j h1
  · rcases at_of l c' h with ⟨z1, z2⟩ | ⟨z1, z2⟩
    · rw [io' l z1]; exact CeR.kp k (fun _ z => z) id (A.ce l c' z2)
    · subst z1 z2; rw [ioN]; exact CeR.kp k (fun _ z => z) id r
  · rcases live_of i h1 with ⟨a1, a2⟩ | a1 <;> rcases live_of j h2 with ⟨b1, b2⟩ | b1
    · rw [io' i a1, io' j b1] at e; exact A.cc i j a2 b2 e
    · subst b1; rw [io' i a1, ioN] at e; exact absurd e (nc i a2)
    · subst a1; rw [io' j b1, ioN] at e; exact absurd e.symm (nc j b2)
    · rw [a1, b1]
/-- a new object that is protected: nobody may know of it, nobody may change it -/
def Gh.hold (g : Gh) (p : Addr) : Gh := ⟨g.io, fun a => a = p ∨ g.W a, g.M⟩
def Gh.free (g : Gh) (p : Addr) : Gh := ⟨g.io, fun a => a ≠ p ∧ g.W a, g.M⟩
theorem Abs.hold (A : Abs K g st s H) {p : Addr} (hp : H p = none) (o : HO) : Abs K (g.hold p) st s (upd H p o) ∧ Ext g st.h.length H (g.hold p) st.h.length (upd H p o) := by
  have ke : ∀ a u, H a = some u → upd H p o a = some u := fun a u h => by rw [upd_ne (ne_of_none h hp)]; exact h
  have k : Kp g st.h.length H (g.hold p) st.h.length (upd H p o) := ⟨fun a u h w => ⟨ke a u h, fun z => z.elim (ne_of_none h hp) w⟩, fun _ _ => rfl, Nat.le_refl _⟩
  refine ⟨⟨fun a m => .inr (A.mw a m), fun a w => ?_, fun i x e => ?_, A.oo, A.oc, fun l c e => CeR.kp k (ke _) id (A.ce l c e), A.cc⟩,
    ⟨fun a u h _ => ke a u h, fun a u h _ => ⟨fun z => z.elim (fun e => absurd e (ne_of_none h hp)) id, .inr⟩, fun a u h m => m, fun _ _ => rfl, Nat.le_refl _⟩⟩
  · rcases w with e | w
    · subst e; exact ⟨o, upd_same⟩
    · obtain ⟨u, h⟩ := A.wt a w
      exact ⟨u, ke a u h⟩
  · obtain ⟨ov, e1, r⟩ := A.sl i x e
    refine ⟨ov, e1, ?_⟩
    cases x with
    | un => trivial
    | exc c0 d0 => exact SlR.kpE k (by assumption)
    | shr d => obtain ⟨v, e2, r⟩ := r; exact ⟨v, e2, r.kp k⟩
    | own d => obtain ⟨a, e2, m, r⟩ := r; exact ⟨a, e2, m, r.kp k (ke a)⟩
/-- .. filled and given free -/
theorem Abs.release (A : Abs K g st s H) {p : Addr} (hw : g.W p) (hm : ¬ g.M p) (o : HO) : Abs K (g.free p) st s (upd H p o) ∧ (∀ d v, Rep K g st.h.length H d v → Rep K (g.free p) st.h.length (upd H p o) d v) := by
  have k : Kp g st.h.length H (g.free p) st.h.length (upd H p o) := ⟨fun a u h w => ⟨by rw [upd_ne (fun e => w (by rw [e]; exact hw))]; exact h, fun z => w z.2⟩, fun _ _ => rfl, Nat.le_refl _⟩
  have nm : ∀ a, g.M a → a ≠ p := fun a h e => hm (by rw [← e]; exact h)
  refine ⟨⟨fun a m => ⟨nm a m, A.mw a m⟩, fun a w => ?_, fun i x e => ?_, A.oo, A.oc, fun l c e => ?_, A.cc⟩, fun d v r => r.kp k⟩
  · obtain ⟨u, h⟩ := A.wt a w.2
    exact ⟨u, by rw [upd_ne w.1]; exact h⟩
  · obtain ⟨ov, e1, r⟩ := A.sl i x e
    refine ⟨ov, e1, ?_⟩
    cases x with
    | un => trivial
    | exc c0 d0 => exact SlR.kpE k (by assumption)
    | shr d => obtain ⟨v, e2, r⟩ := r; exact ⟨v, e2, r.kp k⟩
    | own d => obtain ⟨a, e2, m, r⟩ := r; exact ⟨a, e2, m, r.kp k fun u z => by rw [upd_ne (nm a m)]; exact z⟩
  · by_cases hd : c = .dead
    · subst hd; trivial
    · have m := (A.ce l c e).m hd
      exact CeR.kp k (fun u z => by rw [show upd H p o ((g.free p).io l) = H ((g.free p).io l) from upd_ne (nm _ m)]; exact z) id (A.ce l c e)
end

def baseOk : Expr → Bool
  | .Call (.Name _ _) [] [] _ => false
  | _ => true
theorem base_of {o : Expr} (h : baseOk o = true) (name : Str) (env : Env) (whole : Sem Value) : attributeBase o name env whole = whole := by
  unfold attributeBase
  split
  · cases h
  · rfl
theorem few_of {args : List Expr} (h : args.all notStar = true) (h2 : args.length < 30) (pos : Pos) (env : Env) : ((backTo pos (starEach args env)).all (fun x => !x.1) && (backToKw pos (keywordEach [] env)).all (fun x => x.1.isSome)
      && decide (args.length + ([] : List Keyword).length + (if ([] : List Keyword).isEmpty then 0 else 1) < 30)) = true := by
  have e1 : (backTo pos (starEach args env)).all (fun x => !x.1) = true := by
    have := star_any h pos env
    rw [List.all_eq_not_any_not]
    simpa using this
  rw [e1]
  have e2 : args.length + ([] : List Keyword).length + (if ([] : List Keyword).isEmpty then 0 else 1) < 30 := by simpa using h2
  rw [decide_eq_true e2]
  rfl

section
variable {X : Cx} {ER : ExT} {Wx : WX} {C : Calls} {m : Bool}
theorem se_cel {e : Expr} {t : Ex} (h : SE X ER Wx C e t true) : SE X ER Wx C e (.cel t) false :=
  peImp h fun s H Q h => by
    obtain ⟨g, st, Qd, Xd, A, w, hq, hx⟩ := h
    simp only [wE] at w
    refine ⟨g, st, _, Xd, A, w, fun d st1 v g1 H1 w1 x1 A1 r1 => ?_, hx⟩
    rcases r1 with ⟨a, rfl, m1, r, no, nc⟩ | ⟨sc, r⟩
    · split at w1
      · obtain ⟨g2, A2, x2, r2, _⟩ := A1.cell (c := .lst _) ⟨m1, r⟩ (by intro z; cases z) no nc
        exact hq _ _ _ _ _ w1 (x1.trans x2) A2 r2
      · obtain ⟨g2, A2, x2, r2, _⟩ := A1.cell (c := .dic _ _) ⟨m1, r⟩ (by intro z; cases z) no nc
        exact hq _ _ _ _ _ w1 (x1.trans x2) A2 r2
      · cases d <;> first | exact r.elim | cases w1.1
    · split at w1
      · cases sc
      · cases sc
      · exact hq _ _ _ _ _ w1.2 x1 A1 r
theorem popAt_inv {ds : List D} {k : Int} {x : D} {r : List D} (h : popAt ds k = some (x, r)) : ∃ j, ixN ds.length k = some j ∧ ds[j]? = some x ∧ r = ds.eraseIdx j := by
  unfold popAt at h
  cases q : ixN ds.length k with
  | none => rw [q] at h; cases h
  | some j =>
    rw [q] at h
    have h' : ((ds[j]?).map fun d => (d, ds.eraseIdx j)) = some (x, r) := h
    cases q2 : ds[j]? with
    | none => rw [q2] at h'; cases h'
    | some y => rw [q2] at h'; cases h'; exact ⟨j, rfl, q2, rfl⟩
/-- xs.pop(e), xs an own list -/
theorem se_pop {i : Nat} {x : Str} {e : Expr} {t : Ex} {np apos pos : Pos} (hN : X.N[i]? = some x) (hv : Vis X.env.scope x) (hd : (x == ("__debug__" : Str)) = false) (hcd : (x == ("__classdict__" : Str)) = false) (he : SE X ER Wx C e t false) (hs : notStar e = true) (hl : (apos.endLine == pos.line) = true) :
    SE X ER Wx C (.Call (.Attribute (.Name x np) "pop" apos) [e] [] pos) (.pop i t) false := by
  have hst : ([e] : List Expr).all notStar = true := by simp [hs]
  refine peImp (pe_bm PySem.F.plainAttrs_list PySem.F.slot_list_pop PySem.F.type_list_pop mt_popAt (pe_var hN hv hd hcd) (pa_cons he pa_nil (star_of hs _ _)) (base_of rfl _ _ _) (few_of hst (by simp) _ _) hl (star_of hs _ _) rfl) fun s H Q h => ?_
  obtain ⟨g, st, Qd, Xd, A, w, hq, hx⟩ := h
  simp only [wE] at w
  obtain ⟨⟨ds0, hsl⟩, w⟩ := w
  obtain ⟨ov, e1, a, e2, m1, r⟩ := A.sl i _ hsl
  obtain ⟨vs0, hv0, _⟩ := r
  refine ⟨.ref a, by rw [e1, e2], .inl ⟨rfl, vs0, SqL.of hv0⟩, ?_⟩
  refine ⟨g, st, _, Xd, A, w, fun d st1 v g1 H1 w1 x1 A1 r1 => ?_, hx⟩
  split at w1
  · rename_i k ds hi
    obtain ⟨hz0, y, rr, hp, w2⟩ := w1
    obtain ⟨j, h1, h2, h3⟩ := popAt_inv hp
    subst h3
    obtain ⟨ov', f1, b, f2, m2, r2⟩ := A1.sl i _ hi
    rw [e1, e2] at f1
    cases f1
    cases f2
    obtain ⟨vs, hvs, rvs⟩ := r2
    obtain ⟨z, hz, rz⟩ := rvs.get h2
    have ln := rvs.length
    obtain ⟨q1, q2, q3, q4⟩ := ixN_seq h1
    rw [sizeLine_eq] at hz0
    refine ⟨a, vs, k, j, z, rfl, by rw [show v = V.int k from r1], hvs, ?_, ?_, by rw [ln]; exact q1, hz, ?_⟩
    · omega
    · omega
    · obtain ⟨A2, x2⟩ := A1.writeO (d' := .lst (ds.eraseIdx j)) hi (by rw [e1, e2]) (.lst (vs.eraseIdx j)) ⟨_, upd_same, (rvs.erase j).kp (Kp.write (A1.mw a m2) _)⟩
      exact hq _ _ _ _ _ w2 (x1.trans x2) A2 (rz.kp (Kp.write (A1.mw a m2) _))
  · exact w1.elim
end
end Mp
namespace Mp
open PySem PySem.Spec L2

section
variable {K : Kc} {g g' : Gh} {st : Stt} {s : L2.St} {H H' : Hp} {n n' : Nat}
theorem lt_of_get {α : Type} {l : List α} {i : Nat} {x : α} (h : l[i]? = some x) : i < l.length := by
  rcases Nat.lt_or_ge i l.length with h1 | h1
  · exact h1
  · rw [List.getElem?_eq_none h1] at h; cases h
/-- an object that is protected changes, or is given free -/
theorem Abs.chg (A : Abs K g st s H) {p : Addr} (hw : g.W p) (hm : ¬ g.M p) {g2 : Gh} {H2 : Hp} (hH : ∀ a, a ≠ p → H2 a = H a) (hW : ∀ a, a ≠ p → (g2.W a ↔ g.W a)) (hM : ∀ a, a ≠ p → (g2.M a ↔ g.M a)) (hio : ∀ l, g2.io l = g.io l)
    (h1 : g2.M p → g2.W p) (h2 : g2.W p → ∃ o, H2 p = some o) : Abs K g2 st s H2 ∧ Kp g st.h.length H g2 st.h.length H2 := by
  have k : Kp g st.h.length H g2 st.h.length H2 := ⟨fun a u h w => by
    have ne : a ≠ p := fun e => w (by rw [e]; exact hw)
    exact ⟨by rw [hH a ne]; exact h, fun z => w ((hW a ne).mp z)⟩, fun l _ => hio l, Nat.le_refl _⟩
  have nm : ∀ a, g.M a → a ≠ p := fun a h e => hm (by rw [← e]; exact h)
  refine ⟨⟨fun a m => ?_, fun a w => ?_, fun i x e => ?_, A.oo, fun i a l h1 h2 => by rw [hio l]; exact A.oc i a l h1 h2, fun l c e => ?_, fun l m h1 h2 => by rw [hio l, hio m]; exact A.cc l m h1 h2⟩, k⟩
  · by_cases e : a = p
    · subst e; exact h1 m
    · exact (hW a e).mpr (A.mw a ((hM a e).mp m))
  · by_cases e : a = p
    · subst e; exact h2 w
    · rw [hH a e]; exact A.wt a ((hW a e).mp w)
  · obtain ⟨ov, e1, r⟩ := A.sl i x e
    refine ⟨ov, e1, ?_⟩
    cases x with
    | un => trivial
    | exc c0 d0 => exact SlR.kpE k (by assumption)
    | shr d => obtain ⟨v, e2, r⟩ := r; exact ⟨v, e2, r.kp k⟩
    | own d => obtain ⟨a, e2, m, r⟩ := r; exact ⟨a, e2, (hM a (nm a m)).mpr m, r.kp k fun u z => by rw [hH a (nm a m)]; exact z⟩
  · by_cases hd : c = .dead
    · subst hd; trivial
    · have m := (A.ce l c e).m hd
      rw [hio l]
      exact CeR.kp k (fun u z => by rw [hH _ (nm _ m)]; exact z) (hM _ (nm _ m)).mpr (A.ce l c e)
theorem Ext.chg {g2 : Gh} {H2 : Hp} (x : Ext g n H g' n' H') {p : Addr} (hp : H p = none) (hH : ∀ a, a ≠ p → H2 a = H' a) (hW : ∀ a, a ≠ p → (g2.W a ↔ g'.W a)) (hM : ∀ a, a ≠ p → (g2.M a ↔ g'.M a)) (hio : ∀ l, g2.io l = g'.io l) : Ext g n H g2 n' H2 :=
  ⟨fun a o h m => by rw [hH a (ne_of_none h hp)]; exact x.keep a o h m, fun a o h m => (hW a (ne_of_none h hp)).trans (x.stay a o h m), fun a o h m z => x.stayM a o h m ((hM a (ne_of_none h hp)).mp z), fun l h => (hio l).trans (x.io l h), x.le⟩
theorem Kp.refl : Kp g n H g n H := ⟨fun _ _ h w => ⟨h, w⟩, fun _ _ => rfl, Nat.le_refl _⟩
theorem Kp.trans {g2 : Gh} {n2 : Nat} {H2 : Hp} (a : Kp g n H g' n' H') (b : Kp g' n' H' g2 n2 H2) : Kp g n H g2 n2 H2 :=
  ⟨fun c o h w => b.keep c o (a.keep c o h w).1 (a.keep c o h w).2, fun l h => (b.io l (Nat.lt_of_lt_of_le h a.le)).trans (a.io l h), Nat.le_trans a.le b.le⟩

/-! ### slots -/
theorem Abs.setS (A : Abs K g st s H) {i : Nat} {d : D} {v : V} (r : Rep K g st.h.length H d v) : Abs K g ⟨st.e.set i (.shr d), st.h⟩ (s.set i (some v)) H := by
  have own_of : ∀ j b, OwnAt (st.e.set i (.shr d)) (s.set i (some v)) j b → OwnAt st.e s j b := fun j b ⟨⟨d2, h1⟩, h2⟩ => by
    by_cases hj : j = i
    · subst hj
      have hl : j < st.e.length := by simpa using lt_of_get h1
      rw [List.getElem?_set_self hl] at h1; cases h1
    · rw [List.getElem?_set_ne (Ne.symm hj)] at h1 h2; exact ⟨⟨d2, h1⟩, h2⟩
  refine ⟨A.mw, A.wt, fun j x h => ?_, fun j j' b h1 h2 => A.oo j j' b (own_of j b h1) (own_of j' b h2), fun j b l h1 h2 => A.oc j b l (own_of j b h1) h2, A.ce, A.cc⟩
  by_cases hj : j = i
  · subst hj
    have hl : j < st.e.length := by simpa using lt_of_get h
    rw [List.getElem?_set_self hl] at h
    cases h
    obtain ⟨ov, e1, _⟩ := A.sl j _ (List.getElem?_eq_getElem hl)
    exact ⟨_, List.getElem?_set_self (lt_of_get e1), v, rfl, r⟩
  · have h' : (st.e.set i (.shr d))[j]? = some x := h
    rw [List.getElem?_set_ne (Ne.symm hj)] at h'
    obtain ⟨ov, e1, q⟩ := A.sl j x h'
    exact ⟨ov, by rw [List.getElem?_set_ne (Ne.symm hj)]; exact e1, q⟩
theorem Abs.setO (A : Abs K g st s H) {i : Nat} {d : D} {v : V} (r : RepM K g st s H true d v) : Abs K g ⟨st.e.set i (ownS d), st.h⟩ (s.set i (some v)) H := by
  rcases r with ⟨a, rfl, m, ow, no, nc⟩ | ⟨sc, r⟩
  case inr => unfold ownS; rw [if_pos sc]; exact A.setS r
  have eo : ownS d = .own d := by
    unfold ownS
    cases d <;> first | exact ow.elim | rfl
  rw [eo]
  have own_of : ∀ j b, OwnAt (st.e.set i (.own d)) (s.set i (some (.ref a))) j b → (j ≠ i ∧ OwnAt st.e s j b) ∨ (j = i ∧ b = a) := fun j b ⟨⟨d2, h1⟩, h2⟩ => by
    by_cases hj : j = i
    · subst hj
      have hl : j < s.length := by simpa using lt_of_get h2
      rw [List.getElem?_set_self hl] at h2; cases h2; exact .inr ⟨rfl, rfl⟩
    · rw [List.getElem?_set_ne (Ne.symm hj)] at h1 h2; exact .inl ⟨hj, ⟨d2, h1⟩, h2⟩
  refine ⟨A.mw, A.wt, fun j x h => ?_, fun j j' b h1 h2 => ?_, fun j b l h1 h2 => ?_, A.ce, A.cc⟩
  · by_cases hj : j = i
    · subst hj
      have hl : j < st.e.length := by simpa using lt_of_get h
      rw [List.getElem?_set_self hl] at h
      cases h
      obtain ⟨ov, e1, _⟩ := A.sl j _ (List.getElem?_eq_getElem hl)
      exact ⟨_, List.getElem?_set_self (lt_of_get e1), a, rfl, m, ow⟩
    · have h' : (st.e.set i (.own d))[j]? = some x := h
      rw [List.getElem?_set_ne (Ne.symm hj)] at h'
      obtain ⟨ov, e1, q⟩ := A.sl j x h'
      exact ⟨ov, by rw [List.getElem?_set_ne (Ne.symm hj)]; exact e1, q⟩
  · rcases own_of j b h1 with ⟨a1, a2⟩ | ⟨a1, a2⟩ <;> rcases own_of j' b h2 with ⟨b1, b2⟩ | ⟨b1, b2⟩
    · exact A.oo j j' b a2 b2
    · subst b2; exact absurd a2 (no j)
    · subst a2; exact absurd b2 (no j')
    · rw [a1, b1]
  · rcases own_of j b h1 with ⟨a1, a2⟩ | ⟨a1, a2⟩
    · exact A.oc j b l a2 h2
    · subst a2; exact nc l h2

/-! ### the slots of a block -/
theorem wipe_set {σ : L2.St} {i : Nat} {x : Option V} : ∀ {vs : List Nat}, i ∈ vs → wipe (σ.set i x) vs = wipe σ vs
  | v :: vs, h => by
    unfold wipe
    by_cases hv : i ∈ vs
    · rw [wipe_set hv]
    · have e : i = v := by
        rcases List.mem_cons.mp h with e | e
        · exact e
        · exact absurd e hv
      subst e
      apply List.ext_getElem?
      intro j
      by_cases hj : i = j
      · subst hj
        simp only [List.getElem?_set, if_true, wipe_length, List.length_set]
      · rw [List.getElem?_set_ne hj, List.getElem?_set_ne hj]
        by_cases hk : j ∈ vs
        · exact wipe_in hk
        · rw [wipe_out hk, wipe_out hk, List.getElem?_set_ne hj]
where
  wipe_in {σ : L2.St} {j : Nat} : ∀ {vs : List Nat}, j ∈ vs → (wipe (σ.set i x) vs)[j]? = (wipe σ vs)[j]?
  | v :: vs, h => by
    unfold wipe
    by_cases hv : v = j
    · subst hv
      simp only [List.getElem?_set, if_true, wipe_length, List.length_set]
    · rw [List.getElem?_set_ne hv, List.getElem?_set_ne hv]
      rcases List.mem_cons.mp h with e | e
      · exact absurd e.symm hv
      · exact wipe_in e
theorem hide_get {e : List Sl} {i : Nat} {x : Sl} : ∀ {own : List Nat}, (hide e own)[i]? = some x → x = .un ∨ (e[i]? = some x ∧ i ∉ own)
  | [], h => .inr ⟨h, by simp⟩
  | j :: r, h => by
    unfold hide at h
    by_cases hj : j = i
    · subst hj
      have hl : j < (hide e r).length := by simpa using lt_of_get h
      rw [List.getElem?_set_self hl] at h
      cases h; exact .inl rfl
    · rw [List.getElem?_set_ne hj] at h
      rcases hide_get h with z | ⟨z1, z2⟩
      · exact .inl z
      · exact .inr ⟨z1, by simp only [List.mem_cons, not_or]; exact ⟨fun e => hj e.symm, z2⟩⟩
theorem hide_length {e : List Sl} : ∀ (own : List Nat), (hide e own).length = e.length
  | [] => rfl
  | j :: r => by unfold hide; rw [List.length_set, hide_length r]
theorem unhide_length {e0 e : List Sl} : ∀ (own : List Nat), (unhide e0 e own).length = e.length
  | [] => rfl
  | j :: r => by unfold unhide; rw [List.length_set, unhide_length r]
theorem Abs.hide (A : Abs K g st s H) (own : List Nat) : Abs K g ⟨hide st.e own, st.h⟩ (wipe s own) H := by
  have own_of : ∀ j b, OwnAt (Mp.hide st.e own) (wipe s own) j b → OwnAt st.e s j b := fun j b ⟨⟨d2, h1⟩, h2⟩ => by
    rcases hide_get h1 with z | ⟨z1, z2⟩
    · cases z
    · rw [wipe_out z2] at h2; exact ⟨⟨d2, z1⟩, h2⟩
  refine ⟨A.mw, A.wt, fun j x h => ?_, fun j j' b h1 h2 => A.oo j j' b (own_of j b h1) (own_of j' b h2), fun j b l h1 h2 => A.oc j b l (own_of j b h1) h2, A.ce, A.cc⟩
  rcases hide_get h with z | ⟨z1, z2⟩
  · subst z
    have hl : j < st.e.length := by have := lt_of_get h; rwa [show (Mp.hide st.e own).length = _ from hide_length own] at this
    obtain ⟨ov, e1, _⟩ := A.sl j _ (List.getElem?_eq_getElem hl)
    have hl2 : j < (wipe s own).length := by rw [wipe_length]; exact lt_of_get e1
    exact ⟨_, List.getElem?_eq_getElem hl2, trivial⟩
  · obtain ⟨ov, e1, q⟩ := A.sl j x z1
    exact ⟨ov, by rw [wipe_out z2]; exact e1, q⟩
theorem unhide_get {e0 e : List Sl} {i : Nat} {x : Sl} : ∀ {own : List Nat}, (unhide e0 e own)[i]? = some x → x = .un ∨ (∃ d, x = .shr d ∧ e0[i]? = some x) ∨ (e[i]? = some x ∧ i ∉ own)
  | [], h => .inr (.inr ⟨h, by simp⟩)
  | j :: r, h => by
    unfold unhide at h
    by_cases hj : j = i
    · subst hj
      have hl : j < (unhide e0 e r).length := by simpa using lt_of_get h
      rw [List.getElem?_set_self hl] at h
      cases q : e0[j]? with
      | none => rw [q] at h; cases h; exact .inl rfl
      | some y =>
        rw [q] at h
        cases y with
        | un => cases h; exact .inl rfl
        | exc c0 d0 => cases h; exact .inl rfl
        | shr d => cases h; exact .inr (.inl ⟨d, rfl, rfl⟩)
        | own d => cases h; exact .inl rfl
    · rw [List.getElem?_set_ne hj] at h
      rcases unhide_get h with z | z | ⟨z1, z2⟩
      · exact .inl z
      · exact .inr (.inl z)
      · exact .inr (.inr ⟨z1, by simp only [List.mem_cons, not_or]; exact ⟨fun e => hj e.symm, z2⟩⟩)
theorem Abs.unhide {st0 : Stt} {g0 : Gh} {H0 : Hp} {own : List Nat} (A0 : Abs K g0 st0 s H0) (k : Kp g0 st0.h.length H0 g st.h.length H) (A : Abs K g st (wipe s own) H) : Abs K g ⟨unhide st0.e st.e own, st.h⟩ s H := by
  have own_of : ∀ j b, OwnAt (Mp.unhide st0.e st.e own) s j b → OwnAt st.e (wipe s own) j b := fun j b ⟨⟨d2, h1⟩, h2⟩ => by
    rcases unhide_get h1 with z | ⟨d, z, _⟩ | ⟨z1, z2⟩
    · cases z
    · cases z
    · exact ⟨⟨d2, z1⟩, by rw [wipe_out z2]; exact h2⟩
  refine ⟨A.mw, A.wt, fun j x h => ?_, fun j j' b h1 h2 => A.oo j j' b (own_of j b h1) (own_of j' b h2), fun j b l h1 h2 => A.oc j b l (own_of j b h1) h2, A.ce, A.cc⟩
  rcases unhide_get h with z | ⟨d, z, z1⟩ | ⟨z1, z2⟩
  · subst z
    have hl : j < st.e.length := by have := lt_of_get h; rwa [show (Mp.unhide st0.e st.e own).length = _ from unhide_length own] at this
    obtain ⟨ov, e1, _⟩ := A.sl j _ (List.getElem?_eq_getElem hl)
    have hl2 : j < s.length := by have := lt_of_get e1; rwa [wipe_length] at this
    exact ⟨_, List.getElem?_eq_getElem hl2, trivial⟩
  · subst z
    obtain ⟨ov, e1, v, e2, q⟩ := A0.sl j _ z1
    exact ⟨ov, e1, v, e2, q.kp k⟩
  · obtain ⟨ov, e1, q⟩ := A.sl j x z1
    exact ⟨ov, by rw [wipe_out z2] at e1; exact e1, q⟩
end

/-! ### targets -/
def rdG (K : Kc) (tg : Tg) : TG := fun v s H Q => ∃ (g : Gh) (st : Stt) (d : D) (e' : List Sl), Abs K g st s H ∧ Rep K g st.h.length H d v ∧ tgS tg d st.e = some e' ∧
  ∀ s', Abs K g ⟨e', st.h⟩ s' H → (∀ vs : List Nat, (∀ i ∈ tgI tg, i ∈ vs) → wipe s' vs = wipe s vs) → Q s' H
def rdGs (K : Kc) (tgs : List Tg) : TGs := fun vs s H Q => ∃ (g : Gh) (st : Stt) (ds : List D) (e' : List Sl), Abs K g st s H ∧ Reps K g st.h.length H ds vs ∧ tgSs tgs ds st.e = some e' ∧
  ∀ s', Abs K g ⟨e', st.h⟩ s' H → (∀ ws : List Nat, (∀ i ∈ tgIs tgs, i ∈ ws) → wipe s' ws = wipe s ws) → Q s' H
def SG (X : Cx) (e : Expr) (tg : Tg) : Prop := PG X e (rdG (kz X) tg)
def SGs (X : Cx) (es : List Expr) (tgs : List Tg) : Prop := PGs X es (rdGs (kz X) tgs)
section
variable {X : Cx}
theorem pgImp {e : Expr} {t t' : TG} (h : PG X e t) (i : ∀ v s H Q, t' v s H Q → t v s H Q) : PG X e t' := ⟨fun pins s σ H v u Q I r q => h.run pins s σ H v u Q I r (i v σ H Q q)⟩
theorem pgsImp {e : List Expr} {t t' : TGs} (h : PGs X e t) (i : ∀ v s H Q, t' v s H Q → t v s H Q) : PGs X e t' := ⟨fun pins s σ H v u Q I r q => h.run pins s σ H v u Q I r (i v σ H Q q)⟩
theorem sg_nm {i : Nat} {x : Str} {pos : Pos} (hN : X.N.Nodup) (hi : X.N[i]? = some x) (hx : Loc X.env.scope x) (hf : X.fn x = true ∨ X.env.scope.names.lookup x = some .local) : SG X (.Name x pos) (.nm i) :=
  pgImp (pg_name hN hi hx hf) fun v s H Q ⟨g, st, d, e', A, r, e, q⟩ => by
    have e2 : some (st.e.set i (.shr d)) = some e' := by simpa only [tgS] using e
    cases e2
    exact q _ (A.setS r) fun vs h => wipe_set (h i (by simp [tgI]))
theorem sgs_nil : SGs X [] [] :=
  pgsImp pgs_nil fun vs s H Q ⟨g, st, ds, e', A, r, e, q⟩ => by
    cases ds with
    | cons d ds => simp only [tgSs] at e; cases e
    | nil =>
      cases (show vs = [] from r)
      simp only [tgSs] at e
      cases e
      exact ⟨rfl, q s A fun _ _ => rfl⟩
theorem sgs_cons {e : Expr} {es : List Expr} {t : Tg} {ts : List Tg} (h : SG X e t) (hs : SGs X es ts) (hst : (assignEach (e :: es) X.env).map (·.2) = assign e X.env :: (assignEach es X.env).map (·.2)) : SGs X (e :: es) (t :: ts) :=
  pgsImp (pgs_cons h hs hst) fun vs s H Q ⟨g, st, ds, e', A, r, e, q⟩ => by
    cases ds with
    | nil => simp only [tgSs] at e; cases e
    | cons d ds =>
      obtain ⟨v, vr, rfl, r1, r2⟩ := r
      simp only [tgSs] at e
      cases z : tgS t d st.e with
      | none => rw [z] at e; cases e
      | some e1 =>
        rw [z] at e
        refine ⟨v, vr, rfl, g, st, d, e1, A, r1, z, fun s1 A1 w1 => ⟨g, _, ds, e', A1, r2, e, fun s2 A2 w2 => q s2 A2 fun ws hw => ?_⟩⟩
        rw [w2 ws fun i hi => hw i (by simp only [tgIs, List.mem_append]; exact .inr hi), w1 ws fun i hi => hw i (by simp only [tgIs, List.mem_append]; exact .inl hi)]
theorem tgSs_len : ∀ (ts : List Tg) (ds : List D) (e0 e1 : List Sl), tgSs ts ds e0 = some e1 → ds.length = ts.length := by
  intro ts
  induction ts with
  | nil => intro ds e0 e1 h; cases ds with
    | nil => rfl
    | cons _ _ => simp only [tgSs] at h; cases h
  | cons t ts ih => intro ds e0 e1 h; cases ds with
    | nil => simp only [tgSs] at h; cases h
    | cons d ds =>
      simp only [tgSs] at h
      cases z : tgS t d e0 with
      | none => rw [z] at h; cases h
      | some e2 => rw [z] at h; rw [List.length_cons, List.length_cons, ih ds e2 e1 h]
theorem pgOr {e : Expr} {t t' : TG} (h : PG X e t) (h' : PG X e t') : PG X e (fun v s H Q => t v s H Q ∨ t' v s H Q) :=
  ⟨fun pins s σ H v u Q I r q => q.elim (fun z => h.run pins s σ H v u Q I r z) fun z => h'.run pins s σ H v u Q I r z⟩
theorem sg_tp {es : List Expr} {k : Nat} {ts : List Tg} {pos : Pos} (hc : X.calm = true) (h : SGs X es ts) (hn : (assignEach es X.env).length = ts.length) (hst : (assignEach es X.env).findIdx? (·.1) = none) : SG X (.Tuple es k pos) (.tp ts) :=
  pgImp (pgOr (pg_tup hc h hn hst) (pg_unl hc h hn hst)) fun v s H Q ⟨g, st, d, e', A, r, e, q⟩ => by
    cases d with
    | tup ds =>
      obtain ⟨a, vs, rfl, h1, r⟩ := r
      have e1 : tgSs ts ds st.e = some e' := by simpa only [tgS] using e
      exact .inl ⟨a, vs, rfl, h1.sq, by rw [r.length, tgSs_len _ _ _ _ e1], g, st, ds, e', A, r, e1, fun s' A' w => q s' A' fun ws hw => w ws fun i hi => hw i (by simpa only [tgI] using hi)⟩
    | lst ds =>
      obtain ⟨a, vs, rfl, h1, r⟩ := r
      have e1 : tgSs ts ds st.e = some e' := by simpa only [tgS] using e
      exact .inr ⟨a, vs, rfl, .inl (.inl h1.1), by rw [r.length, tgSs_len _ _ _ _ e1], g, st, ds, e', A, r, e1, fun s' A' w => q s' A' fun ws hw => w ws fun i hi => hw i (by simpa only [tgI] using hi)⟩
    | _ => simp only [tgS] at e; cases e
end

/-! ### what is walked -/
def ItOk (K : Kc) (ds : List D) (h0 : List CO) (g : Gh) (n : Nat) (H : Hp) (J : It) (items : List D) : Prop := ∀ (g' : Gh) (st' : Stt) (s' : L2.St) (H' : Hp), Kp g n H g' st'.h.length H' → Abs K g' st' s' H' → same ds h0 st' → ∀ i,
  (∀ x, items[i]? = some x → J.go i H' ∧ ∀ v H2, J.yld i H' v H2 → ∃ g2, Abs K g2 st' s' H2 ∧ Ext g' st'.h.length H' g2 st'.h.length H2 ∧ Rep K g2 st'.h.length H2 x v) ∧ (items.length ≤ i → J.stop i H')
def rdI (K : Kc) (ER : ExT) (Wx : WX) (k : ItK) (w : Stt → (List D → Stt → Prop) → PX → Prop) : TI := fun s H R => ∃ (g : Gh) (st : Stt) (Qd : List D → Stt → Prop) (Xd : PX), Abs K g st s H ∧ w st Qd Xd ∧
  (∀ ds st', Qd ds st' → ∃ items, itD k (ds.map (view st'.h)) = some items) ∧
  (∀ ds st' items J g' H', Qd ds st' → itD k (ds.map (view st'.h)) = some items → Ext g st.h.length H g' st'.h.length H' → Abs K g' st' s H' → ItOk K ds st'.h g' st'.h.length H' J items → R J H') ∧
  (∀ c fs st' cls dd g' H', Xd c fs st' → Ext g st.h.length H g' st'.h.length H' → Abs K g' st' s H' → ER g' st'.h.length H' c fs cls dd → Wx cls dd s H')
def SI (X : Cx) (ER : ExT) (Wx : WX) (C : Calls) (tg iter : Expr) (k : ItK) (src : List Ex) : Prop := PI X tg iter (rdI (kz X) ER Wx k (wL C src))
section
variable {X : Cx} {ER : ExT} {Wx : WX} {C : Calls}
theorem piImp {tg e : Expr} {t t' : TI} (h : PI X tg e t) (i : ∀ s H R, t' s H R → t s H R) : PI X tg e t' := ⟨fun pins s σ H R I q => h.run pins s σ H R I (i σ H R q)⟩
/-- a list or a tuple -/
def iSeq (K : Kc) (tl : TE) : TI := fun σ H R => tl σ H fun x H1 => ∃ a, x = .ref a ∧ (((∃ xs, SqL K H1 a xs) ∧ R (Itl K a) H1) ∨ ((∃ xs, SqT K H1 a xs) ∧ R (Itt K a) H1))
theorem pi_seq {tg l : Expr} {tl : TE} (hl : PE X l tl) : PI X tg l (iSeq (kz X) tl) := by
  refine ⟨fun pins s σ H R I h => ?_⟩
  refine thn (hl.run pins s σ H _ I h) fun v s1 ⟨x, H1, I1, r1, q1⟩ => ?_
  obtain ⟨a, e, q1⟩ := q1
  subst e
  cases r1
  rcases q1 with ⟨⟨xs, hq⟩, q⟩ | ⟨⟨xs, hq⟩, q⟩
  · obtain ⟨its, rv, p, hz⟩ := I1.list hq
    refine wpAny_pyIter_list p.isList ?_
    refine ⟨s1.heap.objs.size, [s1.heap.objs.size], _, _, H1, rfl, I1.kept (t' := s1.toks) fun b o e => Heap.get?_push_of_some _ e, turn_list a _, ⟨_, Heap.get?_push_size _ rfl, rfl, rfl⟩, fun b hb => ?_, q⟩
    have e : b = s1.heap.objs.size := by simpa using hb
    subst e
    exact I1.fpOk (Nat.le_refl _) (I1.hok.fresh (Nat.le_refl _))
  · obtain ⟨its, rv, p, hz⟩ := I1.tuple hq
    refine wpAny_pyIter_tuple (show s1.heap.IsTuple a its.toArray from p) ?_
    refine ⟨s1.heap.objs.size, [s1.heap.objs.size], _, _, H1, rfl, I1.kept (t' := s1.toks) fun b o e => Heap.get?_push_of_some _ e, turn_tuple a _, ⟨_, Heap.get?_push_size _ rfl, rfl, rfl⟩, fun b hb => ?_, q⟩
    have e : b = s1.heap.objs.size := by simpa using hb
    subst e
    exact I1.fpOk (Nat.le_refl _) (I1.hok.fresh (Nat.le_refl _))
/-- a list or a tuple that is walked: it yields its items, and nothing changes -/
theorem ItOk.sq {K : Kc} {dd : List D} {h0 : List CO} {g : Gh} {n : Nat} {H : Hp} {a : Addr} {vs : List V} {ds : List D} {S : Hp → List V → Prop} {J : It} (hJ : J = ⟨fun i H => ∃ xs v, S H xs ∧ xs[i]? = some v, fun i H v H' => H' = H ∧ ∀ xs, S H xs → xs[i]? = some v, fun i H => ∃ xs, S H xs ∧ xs.length ≤ i⟩)
    (hs : ∀ (g' : Gh) (st' : Stt) (s' : L2.St) (H' : Hp), Kp g n H g' st'.h.length H' → Abs K g' st' s' H' → same dd h0 st' → ∃ vs, S H' vs ∧ Reps K g' st'.h.length H' ds vs) : ItOk K dd h0 g n H J ds := by
  subst hJ
  intro g' st' s' H' k A sm i
  obtain ⟨vs, q, r⟩ := hs g' st' s' H' k A sm
  refine ⟨fun x hx => ?_, fun hi => ⟨vs, q, by rw [r.length]; exact hi⟩⟩
  obtain ⟨v, hv, rv⟩ := r.get hx
  refine ⟨⟨vs, v, q, hv⟩, fun w H2 ⟨e, y⟩ => ?_⟩
  have z := y vs q
  rw [hv] at z
  cases z
  subst e
  exact ⟨g', A, Ext.refl _ _ _, rv⟩
theorem view_lst_inv {h : List CO} {d : D} {ds : List D} (e : view h d = .lst ds) : d = .lst ds ∨ ∃ l, d = .cell l ∧ h[l]? = some (.lst ds) := by
  cases d with
  | cell l =>
    refine .inr ⟨l, rfl, ?_⟩
    have e' : (match h[l]? with | some (.lst ds) => D.lst ds | some (.dic ks vs) => .dic ks vs | some (.obj c ds) => .obj c ds | _ => .cell l) = .lst ds := e
    cases q : h[l]? with
    | none => rw [q] at e'; cases e'
    | some o => rw [q] at e'; cases o <;> cases e' ; rfl
  | lst ds' => cases e; exact .inl rfl
  | _ => cases e
/-- the list that is seen, at once and later -/
theorem lst_seen {K : Kc} {g : Gh} {st : Stt} {s : L2.St} {H : Hp} {d : D} {v : V} {ds : List D} (A : Abs K g st s H) (r : Rep K g st.h.length H d v) (e : view st.h d = .lst ds) : ∃ a, v = .ref a ∧ ∀ (g' : Gh) (st' : Stt) (s' : L2.St) (H' : Hp), Kp g st.h.length H g' st'.h.length H' → Abs K g' st' s' H' → view st'.h d = view st.h d →
    ∃ vs, H' a = some (.lst vs) ∧ Reps K g' st'.h.length H' ds vs := by
  rcases view_lst_inv e with rfl | ⟨l, rfl, hl⟩
  · obtain ⟨a, vs, rfl, h1, r⟩ := r
    exact ⟨a, rfl, fun g' st' s' H' k A' _ => ⟨vs, (k.ls h1).1, r.kp k⟩⟩
  · obtain ⟨hlt, rfl⟩ := r
    refine ⟨_, rfl, fun g' st' s' H' k A' sm => ?_⟩
    rcases view_lst_inv (sm.trans e) with z | ⟨l', z, hl'⟩
    · cases z
    · cases z
      obtain ⟨_, vs, h1, r1⟩ := A'.ce l _ hl'
      exact ⟨vs, by rw [← k.io l hlt]; exact h1, r1⟩
theorem si_seq {tg e : Expr} {t : Ex} (h : SE X ER Wx C e t false) : SI X ER Wx C tg e .seq [t] :=
  piImp (pi_seq h) fun s H R ⟨g, st, Qd, Xd, A, w, hi, hq, hx⟩ => by
    have w1 : wE C t st (fun d st1 => Qd [d] st1) Xd := by simpa only [wL] using w
    refine ⟨g, st, _, Xd, A, w1, fun d st1 v g1 H1 q1 x1 A1 r1 => ?_, hx⟩
    obtain ⟨items, e1⟩ := hi _ _ q1
    have e1' : itD .seq [view st1.h d] = some items := e1
    cases ev : view st1.h d with
    | lst ds =>
      rw [ev] at e1'
      have ei := Option.some.inj e1'
      subst ei
      obtain ⟨a, rfl, hs⟩ := lst_seen A1 r1 ev
      obtain ⟨vs, h1, _⟩ := hs _ _ _ _ Kp.refl A1 rfl
      refine ⟨a, rfl, .inl ⟨⟨vs, SqL.of h1⟩, hq _ _ _ _ _ _ q1 e1 x1 A1 (ItOk.sq (S := fun H => SqL X.K H a) (a := a) (vs := vs) rfl fun g' st' s' H' k A' sm => ?_)⟩⟩
      obtain ⟨vs, h2, r2⟩ := hs g' st' s' H' k A' (by simpa [same] using sm)
      exact ⟨vs, SqL.of h2, r2⟩
    | tup ds =>
      rw [ev] at e1'
      have ei := Option.some.inj e1'
      subst ei
      obtain rfl : d = .tup ds := by
        cases d with
        | cell l =>
          exfalso
          have e' : (match st1.h[l]? with | some (.lst ds) => D.lst ds | some (.dic ks vs) => .dic ks vs | some (.obj c ds) => .obj c ds | _ => .cell l) = .tup ds := ev
          cases q : st1.h[l]? with
          | none => rw [q] at e'; cases e'
          | some o => rw [q] at e'; cases o <;> cases e'
        | _ => exact ev
      obtain ⟨a, vs, rfl, h1, r⟩ := r1
      exact ⟨a, rfl, .inr ⟨⟨vs, h1.sq⟩, hq _ _ _ _ _ _ q1 e1 x1 A1 (ItOk.sq (S := fun H => SqT X.K H a) (a := a) (vs := vs) rfl fun g' st' s' H' k A' _ => ⟨vs, (k.tp h1).sq, r.kp k⟩)⟩⟩
    | scr ds =>
      rw [ev] at e1'
      have ei := Option.some.inj e1'
      subst ei
      obtain rfl : d = .scr ds := by
        cases d with
        | cell l =>
          exfalso
          have e' : (match st1.h[l]? with | some (.lst ds) => D.lst ds | some (.dic ks vs) => .dic ks vs | some (.obj c ds) => .obj c ds | _ => .cell l) = .scr ds := ev
          cases q : st1.h[l]? with
          | none => rw [q] at e'; cases e'
          | some o => rw [q] at e'; cases o <;> cases e'
        | _ => exact ev
      obtain ⟨a, vs, rfl, h1, r⟩ := r1
      exact ⟨a, rfl, .inl ⟨⟨vs, h1.sq⟩, hq _ _ _ _ _ _ q1 e1 x1 A1 (ItOk.sq (S := fun H => SqL X.K H a) (a := a) (vs := vs) rfl fun g' st' s' H' k A' _ => ⟨vs, ScR.sq (h1.imp k.rd id), r.kp k⟩)⟩⟩
    | _ => rw [ev] at e1'; cases e1'
theorem ItOk.rng {K : Kc} {dd : List D} {h0 : List CO} {g : Gh} {n : Nat} {H : Hp} {lo : Int} {m : Nat} : ItOk K dd h0 g n H (Itr lo m) ((List.range m).map fun (k : Nat) => D.int (lo + k)) := by
  intro g' st' s' H' k A _ i
  refine ⟨fun x hx => ?_, fun hi => show m ≤ i by simpa using hi⟩
  have hl : i < m := by simpa using lt_of_get hx
  have ex : D.int (lo + i) = x := by simpa [List.getElem?_map, List.getElem?_range hl] using hx
  subst ex
  exact ⟨hl, fun v H2 ⟨e1, e2⟩ => ⟨g', by rw [e1]; exact A, by rw [e1]; exact Ext.refl _ _ _, e2⟩⟩
/-- an int is seen as it is -/
theorem view_int_inv {h : List CO} {d : D} {j : Int} (e : view h d = .int j) : d = .int j := by
  cases d with
  | cell l =>
    have e' : (match h[l]? with | some (.lst ds) => D.lst ds | some (.dic ks vs) => .dic ks vs | some (.obj c ds) => .obj c ds | _ => .cell l) = .int j := e
    cases q : h[l]? with
    | none => rw [q] at e'; cases e'
    | some o => rw [q] at e'; cases o <;> cases e'
  | _ => exact e
theorem si_range1 {tg a : Expr} {t : Ex} {p pos : Pos} (hg : Gl X "range") (hm : X.mg "range" = none) (h : SE X ER Wx C a t false) (hs : notStar a = true) : SI X ER Wx C tg (.Call (.Name "range" p) [a] [] pos) .range1 [t] :=
  piImp (pi_range1 hg hm (pa_cons h pa_nil (star_of hs _ _)) (star_of hs _ _)) fun s H R ⟨g, st, Qd, Xd, A, w, hi, hq, hx⟩ => by
    have w1 : wE C t st (fun d st1 => Qd [d] st1) Xd := by simpa only [wL] using w
    refine ⟨g, st, _, Xd, A, w1, fun d st1 v g1 H1 q1 x1 A1 r1 => ?_, hx⟩
    obtain ⟨items, e1⟩ := hi _ _ q1
    have e1' : itD .range1 [view st1.h d] = some items := e1
    cases ev : view st1.h d with
    | int j =>
      obtain rfl := view_int_inv ev
      cases (show v = V.int j from r1)
      have e2 : (if -(2 ^ 24) < j ∧ j < 2 ^ 24 then some ((List.range j.toNat).map fun (k : Nat) => D.int k) else none) = some items := e1
      by_cases hj : -(2 ^ 24) < j ∧ j < 2 ^ 24
      · rw [if_pos hj] at e2
        cases e2
        exact ⟨j, rfl, by omega, by omega, hq _ _ _ _ _ _ q1 e1 x1 A1 (by simpa using ItOk.rng (lo := 0) (m := j.toNat))⟩
      · rw [if_neg hj] at e2; cases e2
    | _ => rw [ev] at e1'; cases e1'
theorem si_range2 {tg a b : Expr} {t u : Ex} {p pos : Pos} (hg : Gl X "range") (hm : X.mg "range" = none) (h : SE X ER Wx C a t false) (h2 : SE X ER Wx C b u false) (hs : notStar a = true) (hs2 : notStar b = true) : SI X ER Wx C tg (.Call (.Name "range" p) [a, b] [] pos) .range2 [t, u] :=
  piImp (pi_range2 hg hm (pa_cons h (pa_cons h2 pa_nil (star_of hs2 _ _)) (star_of hs _ _)) (by rw [star_of hs, star_of hs2]; rfl) (star_of hs2 _ _)) fun s H R ⟨g, st, Qd, Xd, A, w, hi, hq, hx⟩ => by
    have w1 : wE C t st (fun d st1 => wE C u st1 (fun d2 st2 => Qd [d, d2] st2) Xd) Xd := by simpa only [wL] using w
    refine ⟨g, st, _, Xd, A, w1, fun d st1 v g1 H1 q1 x1 A1 r1 => ?_, hx⟩
    refine ⟨g1, st1, _, Xd, A1, q1, fun d2 st2 v2 g2 H2 q2 x2 A2 r2 => ?_, fun c fs st' cls dd g' H' q x A r => hx c fs st' cls dd g' H' q (x1.trans x) A r⟩
    obtain ⟨items, e1⟩ := hi _ _ q2
    have e1' : itD .range2 [view st2.h d, view st2.h d2] = some items := e1
    cases ev : view st2.h d with
    | int i =>
      cases ev2 : view st2.h d2 with
      | int j =>
        obtain rfl := view_int_inv ev
        obtain rfl := view_int_inv ev2
        cases (show v = V.int i from r1)
        cases (show v2 = V.int j from r2)
        have e2 : (if -(2 ^ 24) < i ∧ i < 2 ^ 24 ∧ -(2 ^ 24) < j ∧ j < 2 ^ 24 then some ((List.range (j - i).toNat).map fun (k : Nat) => D.int (i + k)) else none) = some items := e1
        by_cases hj : -(2 ^ 24) < i ∧ i < 2 ^ 24 ∧ -(2 ^ 24) < j ∧ j < 2 ^ 24
        · rw [if_pos hj] at e2
          cases e2
          exact ⟨i, j, rfl, ⟨by omega, by omega, by omega, by omega⟩, hq _ _ _ _ _ _ q2 e1 (x1.trans x2) A2 ItOk.rng⟩
        · rw [if_neg hj] at e2; cases e2
      | _ => rw [ev, ev2] at e1'; cases e1'
    | _ => rw [ev] at e1'; cases e1'
end
end Mp
namespace Mp
open PySem PySem.Spec L2

section
variable {K : Kc} {g g1 g2 : Gh} {st st2 : Stt} {s : L2.St} {H H1 H2 H3 : Hp} {n : Nat} {m : Bool}
theorem OwR.rep {p : Addr} (hw : ¬ g.W p) : ∀ {d : D}, OwR K g n H p d → Rep K g n H d (.ref p)
  | .lst _, ⟨vs, h, r⟩ => ⟨p, vs, rfl, ⟨h, hw⟩, r⟩
  | .dic _ _, ⟨kk, ws, h, r1, r2⟩ => ⟨p, kk, ws, rfl, ⟨h, hw⟩, r1, r2⟩
theorem Abs.not_own (A : Abs K g st s H) {p : Addr} (hm : ¬ g.M p) : (∀ i, ¬ OwnAt st.e s i p) ∧ ∀ l, Live st.h l → g.io l ≠ p :=
  ⟨fun i ⟨⟨d, h1⟩, h2⟩ => by
    obtain ⟨ov, e1, b, e2, m, _⟩ := A.sl i _ h1
    rw [h2] at e1; cases e1; cases e2; exact hm m, fun l hl e => hm (by rw [← e]; exact A.live_m hl)⟩
/-- a protected object is done -/
theorem fin_prot {d : D} {p : Addr} (A : Abs K g2 st2 s H2) (hw : g2.W p) (hm : ¬ g2.M p) (x : Ext g n H g2 st2.h.length H2) (hp : H p = none) (hH : ∀ a, a ≠ p → H3 a = H2 a) (h3 : ∃ o, H3 p = some o)
    (ho : ∀ g3, Kp g2 st2.h.length H2 g3 st2.h.length H3 → OwR K g3 st2.h.length H3 p d) (m : Bool) : ∃ g3, Ext g n H g3 st2.h.length H3 ∧ Abs K g3 st2 s H3 ∧ RepM K g3 st2 s H3 m d (.ref p) := by
  cases m with
  | false =>
    obtain ⟨A3, k⟩ := A.chg hw hm (g2 := g2.free p) (H2 := H3) hH (fun a e => ⟨fun z => z.2, fun z => ⟨e, z⟩⟩) (fun a e => Iff.rfl) (fun l => rfl) (fun z => absurd z hm) (fun z => absurd rfl z.1)
    exact ⟨g2.free p, x.chg (g2 := g2.free p) hp hH (fun a e => ⟨fun z => z.2, fun z => ⟨e, z⟩⟩) (fun a e => Iff.rfl) (fun l => rfl), A3, OwR.rep (g := g2.free p) (fun z => z.1 rfl) (ho _ k)⟩
  | true =>
    let g3 : Gh := ⟨g2.io, g2.W, fun a => a = p ∨ g2.M a⟩
    have hM : ∀ a, a ≠ p → (g3.M a ↔ g2.M a) := fun a e => ⟨fun z => z.elim (fun e' => absurd e' e) id, .inr⟩
    obtain ⟨A3, k⟩ := A.chg hw hm (g2 := g3) (H2 := H3) hH (fun a e => Iff.rfl) hM (fun l => rfl) (fun _ => hw) (fun _ => h3)
    have no := A.not_own hm
    exact ⟨g3, x.chg (g2 := g3) hp hH (fun a e => Iff.rfl) hM (fun l => rfl), A3, .inl ⟨p, rfl, .inl rfl, ho _ k, no.1, no.2⟩⟩
theorem Abs.unW (A : Abs K g st s H) {p : Addr} (hp : H p = none) : ¬ g.W p := fun w => by
  obtain ⟨o, h⟩ := A.wt p w; rw [hp] at h; cases h
end

section
variable {X : Cx} {ER : ExT} {Wx : WX} {C : Calls} {m : Bool}
theorem se_dnew {pos : Pos} : SE X ER Wx C (.Dict [] [] pos) (.dct [] []) m :=
  peImp pe_dnewK fun s H Q ⟨g, st, Qd, Xd, A, w, hq, hx⟩ p hp => by
    have w1 : Qd (.dic [] []) st := by simpa only [wE] using w
    obtain ⟨A1, x1⟩ := A.hold hp (.dK [])
    obtain ⟨g3, x3, A3, r3⟩ := fin_prot (d := .dic [] []) (H3 := upd H p (.dK [])) A1 (.inl rfl) (fun z => A.unW hp (A.mw p z)) x1 hp (fun a e => rfl) ⟨_, upd_same⟩ (fun g3 k => ⟨[], [], ⟨[], upd_same, rfl, rfl⟩, rfl, rfl⟩) m
    exact hq _ _ _ _ _ w1 x3 A3 r3
theorem key_of {K : Kc} {g : Gh} {n : Nat} {H : Hp} {a : D} {v : V} (h : keyD a = true) (r : Rep K g n H a v) : ∃ k : Key, kV k = v := by
  cases a with
  | int i => exact ⟨.inl i, r.symm⟩
  | str x => exact ⟨.inr x, r.symm⟩
  | _ => cases h
theorem se_dct1 {k v : Expr} {tk tv : Ex} {pos : Pos} (hk : SE X ER Wx C k tk false) (hv : SE X ER Wx C v tv false) : SE X ER Wx C (.Dict [some k] [v] pos) (.dct [tk] [tv]) m :=
  peImp (pe_disp (pps_cons hk hv pps_nil) rfl rfl (by simp) (by simp)) fun s H Q ⟨g, st, Qd, Xd, A, w, hq, hx⟩ p hp => by
    simp only [wE] at w
    obtain ⟨A1, x1⟩ := A.hold hp (.dK [])
    refine ⟨g.hold p, st, _, Xd, A1, w, fun d st1 x g1 H1 w1 e1 B1 r1 => ?_, fun c fs st' cls dd g' H' q e B r => hx _ _ _ _ _ _ _ q (x1.trans e) B r⟩
    refine ⟨g1, st1, _, Xd, B1, w1, fun d2 st2 y g2 H2 ⟨hkey, w2⟩ e2 B2 r2 => ?_, fun c fs st' cls dd g' H' q e B r => hx _ _ _ _ _ _ _ q ((x1.trans e1).trans e) B r⟩
    have nm : ¬ (g.hold p).M p := fun z => A.unW hp (A.mw p z)
    have e12 := e1.trans e2
    have hp2 : H2 p = some (.dK []) := e12.keep p _ upd_same nm
    obtain ⟨kk, ek⟩ := key_of hkey r1
    refine ⟨hp2, [(kk, y)], by simp [ek], by simp, ?_⟩
    have r1' := Rep.kp (e2.kp B1.mw) r1
    obtain ⟨g3, x3, A3, r3⟩ := fin_prot (d := .dic [d] [d2]) (H3 := upd H2 p (.dK (mergeK [] [(kk, y)]))) B2 ((e12.stay p _ upd_same nm).mpr (.inl rfl)) (e12.stayM p _ upd_same nm) (x1.trans e12) hp (fun a e => upd_ne e) ⟨_, upd_same⟩
      (fun g3 k => ⟨[x], [y], ⟨[(kk, y)], upd_same, by simp [ek], rfl⟩, ⟨x, [], rfl, r1'.kp k, rfl⟩, ⟨y, [], rfl, r2.kp k, rfl⟩⟩) m
    exact hq _ _ _ _ _ w2 x3 A3 r3

/-! ### comprehensions -/
abbrev W0 : WX := fun _ _ _ _ => False
theorem wipe_wipe (σ : L2.St) (vs : List Nat) : wipe (wipe σ vs) vs = wipe σ vs := by
  have key : ∀ us : List Nat, (∀ i ∈ us, i ∈ vs) → wipe (wipe σ us) vs = wipe σ vs := by
    intro us
    induction us with
    | nil => intro _; rfl
    | cons u us ih =>
      intro h
      show wipe ((wipe σ us).set u none) vs = _
      rw [wipe_set (h u (by simp)), ih fun i hi => h i (by simp [hi])]
  exact key vs fun _ h => h
def STs (X : Cx) (ER : ExT) (Wx : WX) (C : Calls) (es : List Expr) (ts : List Ex) : Prop := PTs X es (rdT (kz X) ER Wx (wTs C ts))
theorem ptsImp {es : List Expr} {t t' : TT} (h : PTs X es t) (i : ∀ s H Q, t' s H Q → t s H Q) : PTs X es t' := ⟨fun pins s σ H Q I q => h.run pins s σ H Q I (i σ H Q q)⟩
theorem sts_nil : STs X ER Wx C [] [] := ptsImp pts_nil fun s H Q ⟨g, st, Qd, Xd, A, w, hq, hx⟩ => by
  have w1 : Qd true st := by simpa only [wTs] using w
  exact hq _ _ _ _ w1 (Ext.refl _ _ _) A
theorem sts_one {e : Expr} {t : Ex} (h : ST X ER Wx C e t) : STs X ER Wx C [e] [t] := ptsImp (pts_one h) fun s H Q ⟨g, st, Qd, Xd, A, w, hq, hx⟩ => by
  simp only [wTs] at w
  refine ⟨g, st, _, Xd, A, w, fun b st1 g1 H1 w1 x1 A1 => ?_, hx⟩
  cases b with
  | true => exact hq _ _ _ _ w1 x1 A1
  | false => exact hq _ _ _ _ w1 x1 A1
theorem rd_lc {K : Kc} {s : L2.St} {H : Hp} {Q : VK} {k : ItK} {src tifs : List Ex} {tgt : Tg} {telt : Ex} {own : List Nat} (htg : ∀ i ∈ tgI tgt, i ∈ own) (h : rdE K ER Wx (wE C (.lc k src tgt tifs telt own)) m s H Q) :
    tLc (rdI K ER Wx k (wL C src)) (rdG K tgt) (rdT K ER W0 (wTs C tifs)) (rdE K ER W0 (wE C telt) false) own s H Q := by
  obtain ⟨g, st, Qd, Xd, A, w, hq, hx⟩ := h
  simp only [wE] at w
  refine ⟨g, st, _, Xd, A, w, fun ds st1 ⟨items, e, _⟩ => ⟨items, e⟩, fun ds st1 items J g1 H1 q1 ei x1 A1 it => ?_, hx⟩
  obtain ⟨items', ei', hlen, w1⟩ := q1
  rw [ei] at ei'
  cases ei'
  intro p hp
  generalize hfin : (fun out (st5 : Stt) => Qd (.lst out) ⟨unhide st1.e st5.e own, st5.h⟩) = Fin at w1
  generalize hturn : (fun (x : D) (st2 : Stt) (R : List D → Stt → Prop) => ∃ e', tgS tgt x st2.e = some e' ∧ wTs C tifs ⟨e', st2.h⟩ (fun b st3 => if b = true then wE C telt st3 (fun y st4 => R [y] ⟨hide st4.e own, st4.h⟩) (fun _ _ _ => False) else R [] ⟨hide st3.e own, st3.h⟩) (fun _ _ _ => False)) = turn at w1
  have hu : ∀ x st2 R, turn x st2 R = (∃ e', tgS tgt x st2.e = some e' ∧ wTs C tifs ⟨e', st2.h⟩ (fun b st3 => if b = true then wE C telt st3 (fun y st4 => R [y] ⟨hide st4.e own, st4.h⟩) (fun _ _ _ => False) else R [] ⟨hide st3.e own, st3.h⟩) (fun _ _ _ => False)) := fun x st2 R => by rw [← hturn]
  have hlen' : items.length ≤ sizeLine := hlen
  let Inv' : Nat → Nat → Hp → Prop := fun i mm H' => mm = items.length - i ∧ i ≤ items.length ∧ ∃ (g' : Gh) (st' : Stt) (acc : List D) (vs : List V), Abs K g' st' (wipe s own) H' ∧ Ext g1 st1.h.length H1 g' st'.h.length H' ∧ g'.W p ∧ ¬ g'.M p ∧
    H' p = some (.lst vs) ∧ Reps K g' st'.h.length H' acc vs ∧ acc.length ≤ i ∧ lcLoop (same ds st1.h) turn (items.drop i) acc st' Fin
  refine ⟨Inv', ⟨items.length, by simp, Nat.zero_le _, ?_⟩, fun i mm H' ⟨em, hi, g', st', acc, vs, A', x', hw', hm', hp', r', ha', l'⟩ => ?_⟩
  · obtain ⟨A2, x2⟩ := (A1.hide own).hold hp (.lst [])
    exact ⟨_, _, [], [], A2, x2, .inl rfl, fun z => A1.unW hp (A1.mw p z), upd_same, rfl, Nat.le_refl _, w1⟩
  · have kp' := x'.kp A1.mw
    by_cases hlt : i < items.length
    · rw [List.drop_eq_getElem_cons hlt] at l'
      obtain ⟨sm, l2⟩ : same ds st1.h st' ∧ turn items[i] st' fun r st2 => lcLoop (same ds st1.h) turn (items.drop (i + 1)) (acc ++ r) st2 Fin := l'
      rw [hu] at l2
      obtain ⟨e', he', w2⟩ := l2
      obtain ⟨go, yl⟩ := (it _ _ _ _ kp' A' sm i).1 _ (List.getElem?_eq_getElem hlt)
      refine .inr ⟨go, Inv' (i + 1) (items.length - (i + 1)), fun H2 z => ⟨_, by omega, z⟩, fun v H2 y => ?_⟩
      obtain ⟨g2', A2', x2', rv⟩ := yl v H2 y
      refine ⟨g2', st', _, e', A2', rv, he', fun s2 A2 ws => ?_⟩
      have hws : wipe s2 own = wipe s own := (ws own htg).trans (wipe_wipe s own)
      refine ⟨hws, g2', ⟨e', st'.h⟩, _, _, A2, w2, fun b st3 g3 H3 q3 x3' A3 => ?_, fun _ _ _ _ _ _ _ z => z.elim⟩
      have x3 := x2'.trans x3'
      have hp3 := x3.keep p _ hp' hm'
      have hw3 := (x3.stay p _ hp' hm').mpr hw'
      have hm3 := x3.stayM p _ hp' hm'
      cases b with
      | false =>
        have q4 : lcLoop (same ds st1.h) turn (items.drop (i + 1)) (acc ++ []) ⟨Mp.hide st3.e own, st3.h⟩ Fin := by simpa using q3
        rw [List.append_nil] at q4
        have A4 := A3.hide own
        rw [hws] at A4
        exact ⟨rfl, hlt, g3, _, acc, vs, A4, x'.trans x3, hw3, hm3, hp3, r'.kp (x3.kp A'.mw), Nat.le_succ_of_le ha', q4⟩
      | true =>
        have q4 : wE C telt st3 (fun y st4 => lcLoop (same ds st1.h) turn (items.drop (i + 1)) (acc ++ [y]) ⟨Mp.hide st4.e own, st4.h⟩ Fin) (fun _ _ _ => False) := by simpa using q3
        refine ⟨g3, st3, _, _, A3, q4, fun y4 st4 vy g4 H4 q5 x4 A4 r4 => ?_, fun _ _ _ _ _ _ _ z => z.elim⟩
        have hp4 := x4.keep p _ hp3 hm3
        have hw4 := (x4.stay p _ hp3 hm3).mpr hw3
        have hm4 := x4.stayM p _ hp3 hm3
        have rv4 := (r'.kp (x3.kp A'.mw)).kp (x4.kp A3.mw)
        refine ⟨vs, hp4, by rw [rv4.length]; omega, rfl, hlt, ?_⟩
        have A5 := A4.hide own
        rw [hws] at A5
        obtain ⟨A6, k6⟩ := A5.chg hw4 hm4 (g2 := g4) (H2 := upd H4 p (.lst (vs ++ [vy]))) (fun a e => upd_ne e) (fun _ _ => Iff.rfl) (fun _ _ => Iff.rfl) (fun _ => rfl) (fun z => absurd z hm4) (fun _ => ⟨_, upd_same⟩)
        have ry : Reps K g4 st4.h.length H4 [y4] [vy] := ⟨vy, [], rfl, r4, rfl⟩
        exact ⟨g4, _, acc ++ [y4], vs ++ [vy], A6, ((x'.trans x3).trans x4).chg hp (fun a e => upd_ne e) (fun _ _ => Iff.rfl) (fun _ _ => Iff.rfl) (fun _ => rfl), hw4, hm4, upd_same,
          (rv4.append ry).kp k6, by rw [List.length_append]; simpa using ha', q5⟩
    · have ei2 : i = items.length := by omega
      subst ei2
      obtain ⟨sm, l2⟩ : same ds st1.h st' ∧ Fin acc st' := by simpa [lcLoop] using l'
      rw [← hfin] at l2
      refine .inl ⟨(it _ _ _ _ kp' A' sm _).2 (Nat.le_refl _), ?_⟩
      have A2 : Abs K g' ⟨Mp.unhide st1.e st'.e own, st'.h⟩ s H' := A1.unhide kp' A'
      obtain ⟨g3, x3, A3, r3⟩ := fin_prot (d := .lst acc) (H3 := H') A2 hw' hm' x' hp (fun a e => rfl) ⟨_, hp'⟩ (fun g3 k => ⟨vs, hp', r'.kp k⟩) m
      exact hq _ _ _ _ _ l2 (x1.trans x3) A3 r3
theorem se_lc {elt tg iter : Expr} {ifs : List Expr} {scope : Scope} {own : List (Str × Nat)} {pos : Pos} {k : ItK} {src tifs : List Ex} {tgt : Tg} {telt : Ex} (hc : X.calm = true) (hN : X.N.Nodup) (hi : SI X ER Wx C tg iter k src) (ok : BlkOk X.N X.env.scope scope own)
    (hg : ∀ (s : Shared) (H : Hp) (c : Addr) (cl : List (Str × Addr)) (fp : List Addr), SG (X.blk s H scope (compEnvC scope cl c X.env) fp) tg tgt) (ht : ∀ (s : Shared) (H : Hp) (c : Addr) (cl : List (Str × Addr)) (fp : List Addr), STs (X.blk s H scope (compEnvC scope cl c X.env) fp) ER W0 C ifs tifs)
    (he : ∀ (s : Shared) (H : Hp) (c : Addr) (cl : List (Str × Addr)) (fp : List Addr), SE (X.blk s H scope (compEnvC scope cl c X.env) fp) ER W0 C elt telt false) (hs : ∀ x, foldedSetIterable iter X.env x = pure x) (htg : ∀ i ∈ tgI tgt, i ∈ own.map (·.2)) :
    SE X ER Wx C (.ListComp elt [⟨tg, iter, ifs, 0⟩] scope pos) (.lc k src tgt tifs telt (own.map (·.2))) m := by
  have e : ∀ (s : Shared) (H : Hp) (c : Addr) (cl : List (Str × Addr)) (fp : List Addr), kz (X.blk s H scope (compEnvC scope cl c X.env) fp) = kz X := fun s H c cl fp => by
    rw [kz_calm hc, kz_calm (X := X.blk s H scope (compEnvC scope cl c X.env) fp) hc]
  have hg' : ∀ (s : Shared) (H : Hp) (c : Addr) (cl : List (Str × Addr)) (fp : List Addr), PG (X.blk s H scope (compEnvC scope cl c X.env) fp) tg (rdG (kz X) tgt) := fun s H c cl fp => by rw [← e s H c cl fp]; exact hg s H c cl fp
  have ht' : ∀ (s : Shared) (H : Hp) (c : Addr) (cl : List (Str × Addr)) (fp : List Addr), PTs (X.blk s H scope (compEnvC scope cl c X.env) fp) ifs (rdT (kz X) ER W0 (wTs C tifs)) := fun s H c cl fp => by rw [← e s H c cl fp]; exact ht s H c cl fp
  have he' : ∀ (s : Shared) (H : Hp) (c : Addr) (cl : List (Str × Addr)) (fp : List Addr), PE (X.blk s H scope (compEnvC scope cl c X.env) fp) elt (rdE (kz X) ER W0 (wE C telt) false) := fun s H c cl fp => by rw [← e s H c cl fp]; exact he s H c cl fp
  exact peImp (pe_lc (g := rdG (kz X) tgt) (tt := rdT (kz X) ER W0 (wTs C tifs)) (te := rdE (kz X) ER W0 (wE C telt) false) hc hN hi ok hg' ht' he' hs) fun s H Q h => rd_lc htg h
end
end Mp
namespace Mp
open PySem PySem.Spec L2

/-- the reading of a statement -/
def rdSt (K : Kc) (ER : ExT) (Wx : WX) (m : Bool) (w : Stt → EndD → Prop) : TS := fun D s H => ∃ (g : Gh) (st : Stt) (E : EndD), Abs K g st s H ∧ w st E ∧
  (∀ st' s' g' H', E.nx st' → Ext g st.h.length H g' st'.h.length H' → Abs K g' st' s' H' → D.nx s' H') ∧
  (∀ d st' s' v g' H', E.rt d st' → Ext g st.h.length H g' st'.h.length H' → Abs K g' st' s' H' → RepM K g' st' s' H' m d v → D.rt v H') ∧
  (∀ st' s' g' H', E.bk st' → Ext g st.h.length H g' st'.h.length H' → Abs K g' st' s' H' → D.bk s' H') ∧
  (∀ st' s' g' H', E.ct st' → Ext g st.h.length H g' st'.h.length H' → Abs K g' st' s' H' → D.ct s' H') ∧
  (∀ c fs st' s' cls dd g' H', E.ex c fs st' → Ext g st.h.length H g' st'.h.length H' → Abs K g' st' s' H' → ER g' st'.h.length H' c fs cls dd → Wx cls dd s' H')
def SS (X : Cx) (ER : ExT) (Wx : WX) (C : Calls) (m : Bool) (p : Stmt) (q : Sm) : Prop := PS X p (rdSt (kz X) ER Wx m (wS C q))
def SSs (X : Cx) (ER : ExT) (Wx : WX) (C : Calls) (m : Bool) (p : List Stmt) (q : List Sm) : Prop := PSs X p (rdSt (kz X) ER Wx m (wSs C q))

section
variable {X : Cx} {ER : ExT} {Wx : WX} {C : Calls} {m : Bool}
theorem psImp {p : Stmt} {t t' : TS} (h : PS X p t) (i : ∀ D s H, t' D s H → t D s H) : PS X p t' := ⟨fun pins s σ H D I q => h.run pins s σ H D I (i D σ H q)⟩
theorem pssImp {p : List Stmt} {t t' : TS} (h : PSs X p t) (i : ∀ D s H, t' D s H → t D s H) : PSs X p t' := ⟨fun pins s σ H D I q => h.run pins s σ H D I (i D σ H q)⟩
theorem ss_pass {pos : Pos} : SS X ER Wx C m (.Pass pos) .pass := psImp ps_pass fun D s H ⟨g, st, E, A, w, hn, _⟩ => by
  have w1 : E.nx st := by simpa only [wS] using w
  exact hn _ _ _ _ w1 (Ext.refl _ _ _) A
theorem ss_doc {x : Str} {j : Nat} {p pos : Pos} : SS X ER Wx C m (.Expr (.Constant (.str x) j p) pos) .pass := psImp ps_doc fun D s H ⟨g, st, E, A, w, hn, _⟩ => by
  have w1 : E.nx st := by simpa only [wS] using w
  exact hn _ _ _ _ w1 (Ext.refl _ _ _) A
theorem ss_brk {pos : Pos} : SS X ER Wx C m (.Break pos) .brk := psImp ps_break fun D s H ⟨g, st, E, A, w, hn, hr, hb, hc, hx⟩ => by
  have w1 : E.bk st := by simpa only [wS] using w
  exact hb _ _ _ _ w1 (Ext.refl _ _ _) A
theorem ss_cnt {pos : Pos} : SS X ER Wx C m (.Continue pos) .cnt := psImp ps_continue fun D s H ⟨g, st, E, A, w, hn, hr, hb, hc, hx⟩ => by
  have w1 : E.ct st := by simpa only [wS] using w
  exact hc _ _ _ _ w1 (Ext.refl _ _ _) A
theorem ss_retN {pos : Pos} : SS X ER Wx C m (.Return none pos) (.ret (.con .non)) := psImp ps_retN fun D s H ⟨g, st, E, A, w, hn, hr, hb, hc, hx⟩ => by
  have w1 : E.rt .non st := by simpa only [wS, wE] using w
  refine hr _ _ _ _ _ _ w1 (Ext.refl _ _ _) A ?_
  cases m with
  | false => rfl
  | true => exact .inr ⟨rfl, rfl⟩
theorem ss_ret {e : Expr} {t : Ex} {pos : Pos} (h : SE X ER Wx C e t m) : SS X ER Wx C m (.Return (some e) pos) (.ret t) := psImp (ps_ret h) fun D s H ⟨g, st, E, A, w, hn, hr, hb, hc, hx⟩ => by
  have w1 : wE C t st E.rt E.ex := by simpa only [wS] using w
  exact ⟨g, st, _, _, A, w1, fun d st' v g' H' q x A' r => hr _ _ _ _ _ _ q x A' r, fun c fs st' cls dd g' H' q x A' r => hx _ _ _ _ _ _ _ _ q x A' r⟩
def notComp : Expr → Bool
  | .ListComp _ _ _ _ => false
  | .SetComp _ _ _ _ => false
  | .DictComp _ _ _ _ _ => false
  | _ => true
theorem swaps_of {e : Expr} (h : notComp e = true) (t : Option Expr) (n : Nat) (env : Env) : swapsWith e t n env = pure false := by
  cases e <;> first | rfl | cases h
theorem swapsS_of {e : Expr} (h : notComp e = true) (t : Expr) (n : Nat) (env : Env) : swapsWithSole [t] e n env = pure false := swaps_of h (some t) n env
theorem ss_exp {e : Expr} {t : Ex} {pos : Pos} (h : SE X ER Wx C e t false) (hs : notComp e = true) : SS X ER Wx C m (.Expr e pos) (.exp t) := psImp (ps_expr h (swaps_of hs _ _ _)) fun D s H ⟨g, st, E, A, w, hn, hr, hb, hc, hx⟩ => by
  have w1 : wE C t st (fun _ st1 => E.nx st1) E.ex := by simpa only [wS] using w
  exact ⟨g, st, _, _, A, w1, fun d st' v g' H' q x A' r => hn _ _ _ _ q x A', fun c fs st' cls dd g' H' q x A' r => hx _ _ _ _ _ _ _ _ q x A' r⟩
theorem rdSt_asg {K : Kc} {D : Ends} {s : L2.St} {H : Hp} {tg : Tg} {t : Ex} (h : rdSt K ER Wx m (wS C (.asg tg t)) D s H) : tAsg (rdE K ER Wx (wE C t) false) (rdG K tg) D s H := by
  obtain ⟨g, st, E, A, w, hn, hr, hb, hc, hx⟩ := h
  simp only [wS] at w
  refine ⟨g, st, _, _, A, w, fun d st' v g' H' ⟨e', he, q⟩ x A' r => ?_, fun c fs st' cls dd g' H' q x A' r => hx _ _ _ _ _ _ _ _ q x A' r⟩
  exact ⟨g', st', d, e', A', r, he, fun s' A2 _ => hn ⟨e', st'.h⟩ _ _ _ q x A2⟩
theorem rdSt_asgO {K : Kc} {D : Ends} {s : L2.St} {H : Hp} {i : Nat} {t : Ex} (h : rdSt K ER Wx m (wS C (.asgO i t)) D s H) : tAsg (rdE K ER Wx (wE C t) true) (gName i) D s H := by
  obtain ⟨g, st, E, A, w, hn, hr, hb, hc, hx⟩ := h
  simp only [wS] at w
  refine ⟨g, st, _, _, A, w, fun d st' v g' H' q x A' r => ?_, fun c fs st' cls dd g' H' q x A' r => hx _ _ _ _ _ _ _ _ q x A' r⟩
  exact hn ⟨_, st'.h⟩ _ _ _ q x (A'.setO r)
theorem rdG_nm {K : Kc} {i : Nat} {v : V} {s : L2.St} {H : Hp} {Q : L2.St → Hp → Prop} (h : rdG K (.nm i) v s H Q) : gName i v s H Q := by
  obtain ⟨g, st, d, e', A, r, e, q⟩ := h
  have e2 : some (st.e.set i (.shr d)) = some e' := by simpa only [tgS] using e
  cases e2
  exact q _ (A.setS r) fun vs h => wipe_set (h i (by simp [tgI]))
theorem ss_asgN {x : Str} {i : Nat} {e : Expr} {t : Ex} {p pos : Pos} (hN : X.N.Nodup) (hi : X.N[i]? = some x) (hx : Loc X.env.scope x) (hf : X.fn x = true ∨ X.env.scope.names.lookup x = some .local) (h : SE X ER Wx C e t false) (hs : notComp e = true) :
    SS X ER Wx C m (.Assign [.Name x p] e pos) (.asg (.nm i) t) := psImp (ps_set hN hi hx h (swaps_of hs _ _ _) hf) fun D s H h => rdE_mono (rdSt_asg h) fun v H' q => rdG_nm q
theorem ss_asgO {x : Str} {i : Nat} {e : Expr} {t : Ex} {p pos : Pos} (hN : X.N.Nodup) (hi : X.N[i]? = some x) (hx : Loc X.env.scope x) (hf : X.fn x = true ∨ X.env.scope.names.lookup x = some .local) (h : SE X ER Wx C e t true) (hs : notComp e = true) :
    SS X ER Wx C m (.Assign [.Name x p] e pos) (.asgO i t) := psImp (ps_set hN hi hx h (swaps_of hs _ _ _) hf) fun D s H h => rdSt_asgO h
/-- the sides of a parallel assignment whose stores are swapped -/
def isTup : Expr → Bool
  | .Tuple _ _ _ => true
  | _ => false
theorem swst_of {e : Expr} (h : isTup e = false) (ts : List Expr) (env : Env) : swappedStores ts e env = pure none := by
  unfold swappedStores
  split
  · rename_i q
    split at q <;> first | (cases q; done) | (exact absurd h (by simp [isTup]))
  · rfl
theorem ss_asgT {tge e : Expr} {tg : Tg} {t : Ex} {pos : Pos} (hg : SG X tge tg) (h : SE X ER Wx C e t false) (hs : notComp e = true) (ht : isTup e = false) (h1 : (assignEach [tge] X.env).map (·.2) = [assign tge X.env]) : SS X ER Wx C m (.Assign [tge] e pos) (.asg tg t) :=
  psImp (ps_asg h hg (swapsS_of hs _ _ _) (swst_of ht _ _) h1) fun D s H h => rdSt_asg h

/-! ### changing a list -/
theorem lst_inv {st : Stt} {i : Nat} {ds : List D} (h : lstAt st i = some ds) : st.e[i]? = some (.own (.lst ds)) ∨ ∃ l, st.e[i]? = some (.shr (.cell l)) ∧ st.h[l]? = some (.lst ds) := by
  unfold lstAt at h
  split at h
  · cases h; exact .inl (by assumption)
  · split at h
    · cases h; exact .inr ⟨_, by assumption, by assumption⟩
    · cases h
  · cases h
theorem Abs.lst {K : Kc} {g : Gh} {st : Stt} {s : L2.St} {H : Hp} (A : Abs K g st s H) {i : Nat} {ds : List D} (h : lstAt st i = some ds) : ∃ a vs, s[i]? = some (some (.ref a)) ∧ H a = some (.lst vs) ∧ Reps K g st.h.length H ds vs ∧ g.M a ∧
    ∀ es ws, Reps K g st.h.length H es ws → Abs K g (putAt st i es) s (upd H a (.lst ws)) ∧ Ext g st.h.length H g (putAt st i es).h.length (upd H a (.lst ws)) := by
  rcases lst_inv h with h1 | ⟨l, h1, h2⟩
  · obtain ⟨ov, e1, a, e2, m, vs, hv, r⟩ := A.sl i _ h1
    refine ⟨a, vs, by rw [e1, e2], hv, r, m, fun es ws re => ?_⟩
    have ep : putAt st i es = ⟨st.e.set i (.own (.lst es)), st.h⟩ := by unfold putAt; rw [h1]
    rw [ep]
    exact A.writeO h1 (by rw [e1, e2]) (.lst ws) ⟨ws, upd_same, re.kp (Kp.write (A.mw a m) _)⟩
  · obtain ⟨ov, e1, v, e2, hl, ev⟩ := A.sl i _ h1
    subst ev
    obtain ⟨m, vs, hv, r⟩ := A.ce l _ h2
    refine ⟨g.io l, vs, by rw [e1, e2], hv, r, m, fun es ws re => ?_⟩
    have ep : putAt st i es = ⟨st.e, st.h.set l (.lst es)⟩ := by unfold putAt; rw [h1]
    rw [ep]
    exact A.writeC h2 (by intro z; cases z) (by intro z; cases z) (.lst ws) ⟨m, ws, upd_same, re.kp (Kp.write (A.mw _ m) _)⟩
/-- x[k] = e -/
theorem ss_setI {x : Str} {i : Nat} {k e : Expr} {tk t : Ex} {p p2 pos : Pos} (hN : X.N[i]? = some x) (hv : Vis X.env.scope x) (hd : (x == ("__debug__" : Str)) = false) (hcd : (x == ("__classdict__" : Str)) = false) (hk : SE X ER Wx C k tk false) (h : SE X ER Wx C e t false) (hs : notComp e = true) (ht : isTup e = false)
    (ha : ∀ v, assign (.Subscript (.Name x p) k p2) X.env v = (do
      let ov ← holding [v] (eval (.Name x p) X.env)
      let iv ← holding [v, ov] (eval k X.env)
      standAt p2
      holding [v, ov, iv] (setItem ov iv v)
      release [v, ov, iv] [])) : SS X ER Wx C m (.Assign [.Subscript (.Name x p) k p2] e pos) (.setI i tk t) :=
  psImp (ps_asg h (pg_sub (pe_var hN hv hd hcd) hk set_list ha) (swapsS_of hs _ _ _) (swst_of ht _ _) rfl) fun D s H ⟨g, st, E, A, w, hn, hr, hb, hc, hx⟩ => by
    simp only [wS] at w
    refine ⟨g, st, _, _, A, w, fun d st1 v g1 H1 ⟨h1, w1⟩ x1 A1 r1 => ?_, fun c fs st' cls dd g' H' q x A' r => hx _ _ _ _ _ _ _ _ q x A' r⟩
    obtain ⟨d0, hd0⟩ := Option.isSome_iff_exists.mp h1
    obtain ⟨o, eo, _⟩ := A1.slot hd0
    refine ⟨o, eo, g1, st1, _, _, A1, w1, fun z st2 vk g2 H2 q2 x2 A2 r2 => ?_, fun c fs st' cls dd g' H' q x A' r => hx _ _ _ _ _ _ _ _ q (x1.trans x) A' r⟩
    split at q2
    · obtain ⟨ds, mi, hl, hm, q3⟩ := q2
      obtain ⟨a, vs, e1, hv1, rv, ma, put⟩ := A2.lst hl
      rw [eo] at e1
      cases e1
      have r1' := Rep.kp (x2.kp A1.mw) r1
      obtain ⟨A3, x3⟩ := put _ _ (rv.set mi r1')
      exact ⟨a, vs, _, mi, rfl, r2, hv1, by rw [rv.length]; exact hm, hn _ _ _ _ q3 ((x1.trans x2).trans x3) A3⟩
    · exact q2.elim
/-- x.append(e) -/
theorem ss_app {x : Str} {i : Nat} {e : Expr} {t : Ex} {np apos cpos pos : Pos} (hN : X.N[i]? = some x) (hv : Vis X.env.scope x) (hd : (x == ("__debug__" : Str)) = false) (hcd : (x == ("__classdict__" : Str)) = false) (h : SE X ER Wx C e t false) (hs : notStar e = true) (hl : (apos.endLine == cpos.line) = true) :
    SS X ER Wx C m (.Expr (.Call (.Attribute (.Name x np) "append" apos) [e] [] cpos) pos) (.app i t) := by
  have hst : ([e] : List Expr).all notStar = true := by simp [hs]
  refine psImp (ps_expr (pe_bm PySem.F.plainAttrs_list PySem.F.slot_list_append PySem.F.type_list_append mt_append (pe_var hN hv hd hcd) (pa_cons h pa_nil (star_of hs _ _)) (base_of rfl _ _ _) (few_of hst (by simp) _ _) hl (star_of hs _ _) rfl) rfl) fun D s H ⟨g, st, E, A, w, hn, hr, hb, hc, hx⟩ => ?_
  simp only [wS] at w
  obtain ⟨h0, w⟩ := w
  obtain ⟨ds0, hl0⟩ := Option.isSome_iff_exists.mp h0
  obtain ⟨a, vs0, e0, hv0, _⟩ := A.lst hl0
  refine ⟨.ref a, e0, .inl ⟨rfl, vs0, SqL.of hv0⟩, ?_⟩
  refine ⟨g, st, _, _, A, w, fun d st1 v g1 H1 ⟨ds, hl1, hz, q⟩ x1 A1 r1 => ?_, fun c fs st' cls dd g' H' q x A' r => hx _ _ _ _ _ _ _ _ q x A' r⟩
  obtain ⟨b, vs, e1, hv1, rv, mb, put⟩ := A1.lst hl1
  rw [e0] at e1
  cases e1
  obtain ⟨A3, x3⟩ := put (ds ++ [d]) (vs ++ [v]) (rv.append ⟨v, [], rfl, r1, rfl⟩)
  exact ⟨a, vs, v, rfl, rfl, hv1, by rw [rv.length]; exact hz, hn _ _ _ _ q (x1.trans x3) A3⟩

/-! ### flow -/
theorem sss_nil : SSs X ER Wx C m [] [] := pssImp pss_nil fun D s H ⟨g, st, E, A, w, hn, hr, hb, hc, hx⟩ => by
  have w1 : E.nx st := by simpa only [wSs] using w
  exact hn _ _ _ _ w1 (Ext.refl _ _ _) A
theorem rdSt_next {K : Kc} {D : Ends} {g g1 : Gh} {st st1 : Stt} {s1 : L2.St} {H H1 : Hp} {E : EndD} {w : Stt → EndD → Prop} (A1 : Abs K g1 st1 s1 H1) (x1 : Ext g st.h.length H g1 st1.h.length H1) (w1 : w st1 E)
    (hn : ∀ st' s' g' H', E.nx st' → Ext g st.h.length H g' st'.h.length H' → Abs K g' st' s' H' → D.nx s' H')
    (hr : ∀ d st' s' v g' H', E.rt d st' → Ext g st.h.length H g' st'.h.length H' → Abs K g' st' s' H' → RepM K g' st' s' H' m d v → D.rt v H')
    (hb : ∀ st' s' g' H', E.bk st' → Ext g st.h.length H g' st'.h.length H' → Abs K g' st' s' H' → D.bk s' H')
    (hc : ∀ st' s' g' H', E.ct st' → Ext g st.h.length H g' st'.h.length H' → Abs K g' st' s' H' → D.ct s' H')
    (hx : ∀ c fs st' s' cls dd g' H', E.ex c fs st' → Ext g st.h.length H g' st'.h.length H' → Abs K g' st' s' H' → ER g' st'.h.length H' c fs cls dd → Wx cls dd s' H') : rdSt K ER Wx m w D s1 H1 :=
  ⟨g1, st1, E, A1, w1, fun _ _ _ _ q x A => hn _ _ _ _ q (x1.trans x) A, fun _ _ _ _ _ _ q x A r => hr _ _ _ _ _ _ q (x1.trans x) A r, fun _ _ _ _ q x A => hb _ _ _ _ q (x1.trans x) A, fun _ _ _ _ q x A => hc _ _ _ _ q (x1.trans x) A, fun _ _ _ _ _ _ _ _ q x A r => hx _ _ _ _ _ _ _ _ q (x1.trans x) A r⟩
theorem sss_cons {p : Stmt} {ps : List Stmt} {q : Sm} {qs : List Sm} (h : SS X ER Wx C m p q) (hs : SSs X ER Wx C m ps qs) : SSs X ER Wx C m (p :: ps) (q :: qs) := pssImp (pss_cons h hs) fun D s H ⟨g, st, E, A, w, hn, hr, hb, hc, hx⟩ => by
  simp only [wSs] at w
  exact ⟨g, st, _, A, w, fun st1 s1 g1 H1 q x1 A1 => rdSt_next A1 x1 q hn hr hb hc hx, hr, hb, hc, hx⟩
theorem ss_ite {c : Expr} {tc : Ex} {a b : List Stmt} {ta tb : List Sm} {pos : Pos} (hcn : ST X ER Wx C c tc) (ha : SSs X ER Wx C m a ta) (hbn : SSs X ER Wx C m b tb) : SS X ER Wx C m (.If c a b pos) (.ite tc ta tb) := psImp (ps_if hcn ha hbn) fun D s H ⟨g, st, E, A, w, hn, hr, hb, hc, hx⟩ => by
  simp only [wS] at w
  refine ⟨g, st, _, _, A, w, fun k st1 g1 H1 q x1 A1 => ?_, fun c fs st' cls dd g' H' q x A' r => hx _ _ _ _ _ _ _ _ q x A' r⟩
  cases k with
  | true => exact rdSt_next A1 x1 q hn hr hb hc hx
  | false => exact rdSt_next A1 x1 q hn hr hb hc hx
theorem ss_whl {c : Expr} {tc : Ex} {b : List Stmt} {tb : List Sm} {pos : Pos} (hp : PassesOwn (model X.prog X.w) X.A X.env X.xe) (hcn : ST X ER Wx C c tc) (hbn : SSs X ER Wx C m b tb) : SS X ER Wx C m (.While c b [] pos) (.whl tc tb) := psImp (ps_while hp hcn hbn) fun D s H ⟨g, st, E, A, w, hn, hr, hb, hc, hx⟩ => by
  simp only [wS] at w
  obtain ⟨I, ⟨m0, i0⟩, turn⟩ := w
  refine ⟨fun m s' H' => ∃ g' st', Abs (kz X) g' st' s' H' ∧ Ext g st.h.length H g' st'.h.length H' ∧ I m st', ⟨m0, g, st, A, Ext.refl _ _ _, i0⟩, fun m s' H' ⟨g', st', A', x', i'⟩ => ?_⟩
  refine ⟨g', st', _, _, A', turn m st' i', fun k st1 g1 H1 q x1 A1 => ?_, fun c fs st2 cls dd g2 H2 q x2 A2 r => hx _ _ _ _ _ _ _ _ q (x'.trans x2) A2 r⟩
  have x1' := x'.trans x1
  cases k with
  | false => exact hn _ _ _ _ q x1' A1
  | true =>
    refine ⟨fun s2 H2 => ∃ m', m' < m ∧ ∃ g' st', Abs (kz X) g' st' s2 H2 ∧ Ext g st.h.length H g' st'.h.length H2 ∧ I m' st', fun _ _ z => z, ?_⟩
    refine rdSt_next A1 x1' q (fun st2 s2 g2 H2 ⟨m', hm, z⟩ x2 A2 => ⟨m', hm, g2, st2, A2, x2, z⟩) hr hn (fun st2 s2 g2 H2 ⟨m', hm, z⟩ x2 A2 => ⟨m', hm, g2, st2, A2, x2, z⟩) hx
theorem ss_for {tge iter : Expr} {b : List Stmt} {k : ItK} {src : List Ex} {tg : Tg} {tb : List Sm} {pos : Pos} (hp : PassesOwn (model X.prog X.w) X.A X.env X.xe) (hcalm : X.calm = true) (hi : SI X ER Wx C tge iter k src) (hg : SG X tge tg) (hbn : SSs X ER Wx C m b tb) (hs : ∀ x, foldedSetIterable iter X.env x = pure x) :
    SS X ER Wx C m (.For tge iter b [] pos) (.for_ k src tg tb) := psImp (ps_for hp hcalm hi hg hbn hs) fun D s H ⟨g, st, E, A, w, hn, hr, hb, hc, hx⟩ => by
  simp only [wS] at w
  refine ⟨g, st, _, _, A, w, fun ds st1 ⟨items, e, _⟩ => ⟨items, e⟩, fun ds st1 items J g1 H1 q1 ei x1 A1 it => ?_, fun c fs st' cls dd g' H' q x A' r => hx _ _ _ _ _ _ _ _ q x A' r⟩
  obtain ⟨items', ei', hlen, w1⟩ := q1
  rw [ei] at ei'
  cases ei'
  generalize hturn : (fun (x : Mp.D) (st2 : Stt) (R : Stt → Prop) => ∃ e', tgS tg x st2.e = some e' ∧ wSs C tb ⟨e', st2.h⟩ { nx := R, rt := E.rt, bk := E.nx, ct := R, ex := E.ex }) = turn at w1
  have hu : ∀ x st2 R, turn x st2 R = (∃ e', tgS tg x st2.e = some e' ∧ wSs C tb ⟨e', st2.h⟩ { nx := R, rt := E.rt, bk := E.nx, ct := R, ex := E.ex }) := fun x st2 R => by rw [← hturn]
  let Inv' : Nat → Nat → L2.St → Hp → Prop := fun i mm s' H' => mm = items.length - i ∧ i ≤ items.length ∧ ∃ (g' : Gh) (st' : Stt), Abs (kz X) g' st' s' H' ∧ Ext g1 st1.h.length H1 g' st'.h.length H' ∧ forLoop (same ds st1.h) turn (items.drop i) st' E.nx
  refine ⟨Inv', ⟨items.length, by simp, Nat.zero_le _, g1, st1, A1, Ext.refl _ _ _, w1⟩, fun i mm s' H' ⟨em, hi, g', st', A', x', l'⟩ => ?_⟩
  have kp' := x'.kp A1.mw
  by_cases hlt : i < items.length
  · rw [List.drop_eq_getElem_cons hlt] at l'
    obtain ⟨sm, l2⟩ : same ds st1.h st' ∧ turn items[i] st' fun st2 => forLoop (same ds st1.h) turn (items.drop (i + 1)) st2 E.nx := l'
    rw [hu] at l2
    obtain ⟨e', he', w2⟩ := l2
    obtain ⟨go, yl⟩ := (it _ _ _ _ kp' A' sm i).1 _ (List.getElem?_eq_getElem hlt)
    refine .inr ⟨go, Inv' (i + 1) (items.length - (i + 1)), fun s2 H2 z => ⟨_, by omega, z⟩, fun v H2 y => ?_⟩
    obtain ⟨g2', A2', x2', rv⟩ := yl v H2 y
    replace x' := x'.trans x2'
    refine ⟨g2', st', _, e', A2', rv, he', fun s2 A2 _ => ?_⟩
    refine ⟨g2', ⟨e', st'.h⟩, _, A2, w2, fun st3 s3 g3 H3 q x3 A3 => ⟨rfl, hlt, g3, st3, A3, x'.trans x3, q⟩, fun _ _ _ _ _ _ q x A r => hr _ _ _ _ _ _ q ((x1.trans x').trans x) A r, fun _ _ _ _ q x A => hn _ _ _ _ q ((x1.trans x').trans x) A,
      fun st3 s3 g3 H3 q x3 A3 => ⟨rfl, hlt, g3, st3, A3, x'.trans x3, q⟩, fun _ _ _ _ _ _ _ _ q x A r => hx _ _ _ _ _ _ _ _ q ((x1.trans x').trans x) A r⟩
  · have ei2 : i = items.length := by omega
    subst ei2
    obtain ⟨sm, l2⟩ : same ds st1.h st' ∧ E.nx st' := by simpa [forLoop] using l'
    exact .inl ⟨(it _ _ _ _ kp' A' sm _).2 (Nat.le_refl _), hn _ _ _ _ l2 (x1.trans x') A'⟩
end
end Mp
namespace Mp
open PySem PySem.Spec L2
/-! ### methods of texts -/
section
variable {X : Cx} {ER : ExT} {Wx : WX} {C : Calls} {m : Bool}
/-- 'z'.name(e) -/
theorem se_mtC {id : String} {o : Op} {r : V → List V → Hp → VK → Prop} {name z : Str} {j : Nat} {e : Expr} {te : Ex} {p apos pos : Pos} (slot : Slot "str" name id) (hty : typeOf (.builtin id) = pure (.type "method_descriptor")) (hm : MtR X id r)
    (hr : ∀ {s H Q x y}, OpPost (kz X) s o m [x, y] H Q → r x [y] H Q) (he : SO X ER Wx C e te) (hs : notStar e = true) (hl : (apos.endLine == pos.line) = true) :
    SE X ER Wx C (.Call (.Attribute (.Constant (.str z) j p) name apos) [e] [] pos) (.op o [.con (.str z), te]) m := by
  have hst : ([e] : List Expr).all notStar = true := by simp [hs]
  refine peImp (pe_bm PySem.F.plainAttrs_str slot hty hm pe_str (pa_cons he pa_nil (star_of hs _ _)) (base_of rfl _ _ _) (few_of hst (by simp) _ _) hl (star_of hs _ _) rfl) fun s H Q h => ⟨rfl, ?_⟩
  have h1 := rdE_con (m := false) (d := .str z) (v := .str z) (rdE_op2 h) (fun _ _ _ => rfl) (.inl rfl)
  exact rdO_mono h1 fun y H1 h2 => hr h2
/-- e.name('z') -/
theorem se_mtA {id : String} {o : Op} {r : V → List V → Hp → VK → Prop} {name z : Str} {j : Nat} {e : Expr} {te : Ex} {p apos pos : Pos} (slot : Slot "str" name id) (hty : typeOf (.builtin id) = pure (.type "method_descriptor")) (hm : MtR X id r)
    (hr : ∀ {s H Q x y}, OpPost (kz X) s o m [x, y] H Q → r x [y] H Q) (hx : ∀ {x ys H Q}, r x ys H Q → ∃ a, x = .str a) (he : SO X ER Wx C e te) (hb : baseOk e = true) (hl : (apos.endLine == pos.line) = true) :
    SE X ER Wx C (.Call (.Attribute e name apos) [.Constant (.str z) j p] [] pos) (.op o [te, .con (.str z)]) m := by
  refine peImp (pe_bm PySem.F.plainAttrs_str slot hty hm he (pa_cons pe_str pa_nil (star_of rfl _ _)) (base_of hb _ _ _) (few_of rfl (by simp) _ _) hl (star_of rfl _ _) rfl) fun s H Q h => ?_
  refine rdO_mono (rdE_op2 h) fun x H1 h1 => ?_
  have h2 := hr (rdE_con (m := false) (d := .str z) (v := .str z) h1 (fun _ _ _ => rfl) (.inl rfl))
  obtain ⟨a, rfl⟩ := hx h2
  exact ⟨rfl, h2⟩
/-- 'z'.index(e), found -/
theorem se_index {z : Str} {j : Nat} {e : Expr} {te : Ex} {p apos pos : Pos} (hc : X.calm = true) (tk : Takes X Wx) (he : SO X ER Wx C e te) (hs : notStar e = true) (hl : (apos.endLine == pos.line) = true) :
    SE X ER Wx C (.Call (.Attribute (.Constant (.str z) j p) "index" apos) [e] [] pos) (.op .index [.con (.str z), te]) false := by
  have hst : ([e] : List Expr).all notStar = true := by simp [hs]
  refine peImp (pe_bmS PySem.F.plainAttrs_str PySem.F.slot_str_index PySem.F.type_str_index (mt_indexX hc tk) pe_str (pa_cons he pa_nil (star_of hs _ _)) (base_of rfl _ _ _) (few_of hst (by simp) _ _) hl (star_of hs _ _) rfl) fun s H Q h => ⟨rfl, ?_⟩
  have h1 := rdE_con (m := false) (d := .str z) (v := .str z) (rdE_op2 h) (fun _ _ _ => rfl) (.inl rfl)
  exact rdO_mono h1 fun y H1 h2 => post_index h2
/-! ### a, b = e, f -/
theorem setSs_abs {K : Kc} {g : Gh} {H : Hp} : ∀ {is : List Nat} {ds : List D} {vs : List V} {e e' : List Sl} {h : List CO} {s : L2.St}, Abs K g ⟨e, h⟩ s H → Reps K g h.length H ds vs → setSs is ds e = some e' →
    Abs K g ⟨e', h⟩ ((is.zip vs).foldl (fun s p => s.set p.1 (some p.2)) s) H
  | [], [], vs, e, e', h, s, A, r, q => by
    cases r; cases q; exact A
  | i :: is, d :: ds, _, e, e', h, s, A, ⟨v, w, ev, r, rs⟩, q => by
    subst ev
    have A2 : Abs K g ⟨e.set i (.shr d), h⟩ (s.set i (some v)) H := A.setS r
    exact setSs_abs (is := is) (ds := ds) (vs := w) A2 rs q
  | [], _ :: _, _, _, _, _, _, _, _, q => by cases q
  | _ :: _, [], _, _, _, _, _, _, _, q => by cases q
theorem rdSt_par {K : Kc} {D : Ends} {s : L2.St} {H : Hp} {is : List Nat} {ts : List Ex} (hl : is.length = ts.length) (h : rdSt K ER Wx m (wS C (.par is ts)) D s H) :
    rdL K ER Wx ts.length (wL C ts) s H fun vs H1 => vs.length = is.length ∧ D.nx ((is.zip vs).foldl (fun s p => s.set p.1 (some p.2)) s) H1 := by
  obtain ⟨g, st, E, A, w, hn, hr, hb, hc, hx⟩ := h
  simp only [wS] at w
  refine ⟨g, st, _, _, A, w, fun ds st1 vs g1 H1 ⟨e', e1, q⟩ x1 A1 r1 hl2 => ⟨by rw [hl2, hl], ?_⟩, fun c fs st' cls dd g' H' q x A' r => hx _ _ _ _ _ _ _ _ q x A' r⟩
  exact hn _ _ _ _ q x1 (setSs_abs A1 r1 e1)
theorem ss_par2 {x y : Str} {i j : Nat} {a b : Expr} {ts : List Ex} {px py pt pt2 pos : Pos} {kt k2 : Nat} (hc : X.calm = true) (hN : X.N.Nodup) (hi : X.N[i]? = some x) (hj : X.N[j]? = some y) (hij : i ≠ j) (hx : X.env.scope.names.lookup x = some .local) (hy : X.env.scope.names.lookup y = some .local)
    (ha : SL X ER Wx C [a, b] ts) (hl : ts.length = 2) (hw : swappedStores [.Tuple [.Name x px, .Name y py] kt pt] (.Tuple [a, b] k2 pt2) X.env = pure (some [x, y])) :
    SS X ER Wx C m (.Assign [.Tuple [.Name x px, .Name y py] kt pt] (.Tuple [a, b] k2 pt2) pos) (.par [i, j] ts) :=
  psImp (ps_par hc hN hi hj hij hx hy ha hw) fun D s H h => rdL_mono (rdSt_par (by rw [hl]; rfl) h) fun vs H1 ⟨q1, q2⟩ => by
    match vs, q1, q2 with
    | [u, v], _, q2 => exact ⟨u, v, rfl, q2⟩
theorem ss_par3 {x y z : Str} {i j l : Nat} {a b c : Expr} {ts : List Ex} {px py pz pt pt2 pos : Pos} {kt k2 : Nat} (hc : X.calm = true) (hN : X.N.Nodup) (hi : X.N[i]? = some x) (hj : X.N[j]? = some y) (hz0 : X.N[l]? = some z) (hij : i ≠ j) (hil : i ≠ l) (hjl : j ≠ l)
    (hx : X.env.scope.names.lookup x = some .local) (hy : X.env.scope.names.lookup y = some .local) (hz : X.env.scope.names.lookup z = some .local)
    (ha : SL X ER Wx C [a, b, c] ts) (hl : ts.length = 3) (hw : swappedStores [.Tuple [.Name x px, .Name y py, .Name z pz] kt pt] (.Tuple [a, b, c] k2 pt2) X.env = pure (some [x, y, z])) :
    SS X ER Wx C m (.Assign [.Tuple [.Name x px, .Name y py, .Name z pz] kt pt] (.Tuple [a, b, c] k2 pt2) pos) (.par [i, j, l] ts) :=
  psImp (ps_par3 hc hN hi hj hz0 hij hil hjl hx hy hz ha hw) fun D s H h => rdL_mono (rdSt_par (by rw [hl]; rfl) h) fun vs H1 ⟨q1, q2⟩ => by
    match vs, q1, q2 with
    | [u, v, w], _, q2 => exact ⟨u, v, w, rfl, q2⟩
end
end Mp
/-! the package's errors: class X(FigureError), whose __init__(self, f) says super().__init__(text); self.f = f -/
namespace Mp
open PySem PySem.Spec PySem.W PySem.Calls PyProof.Rows PySem.HandSPX
/-! ### what is read off the written part -/
/-- the text of __init__ -/
def initB (f : Str) (ps : Arguments) (b : FuncBody) (sc : Scope) : Bool :=
  (match ps with
  | ⟨[], [a, c], none, [], [], none, []⟩ => decide (a.arg = "self") && decide (c.arg = f)
  | _ => false) &&
  (match b with
  | .stmts [.Expr (.Call (.Attribute (.Call (.Name s0 _) [] [] _) i0 ap) [.Constant (.str _) _ _] [] cp) _, .Assign [.Attribute (.Name s1 _) g _] (.Name g' _) _] => decide (s0 = "super") && decide (i0 = "__init__") && decide (s1 = "self") && decide (g = f) && decide (g' = f) && (ap.endLine == cp.line)
  | _ => false) &&
  decide (sc.kind = .function) && !sc.isGenerator && !sc.isCoroutine && sc.names.all (fun y => decide (y.2 ≠ .cell)) && decide (sc.names.lookup ("super" : Str) = some .globalImplicit) && decide (sc.names.lookup ("__class__" : Str) = some .free) &&
  decide (sc.names.lookup ("self" : Str) = some .local) && decide (sc.names.lookup f = some .local) && decide (f ≠ "self") && decide (f ≠ "__debug__")
def vsFile (vs : Array Value) (file : Str) : Bool := match vs[2]? with
  | some (Value.str z _) => file == z
  | _ => false
def fnB (K : Frag) (file f : Str) (C : Addr) (o : Option Obj) : Bool := match o with
  | some ⟨_, _, .func fd, _⟩ => initB f fd.params fd.body fd.scope && decide (fd.globals = mainGlobals) && decide (fd.builtins = builtinsNs) && decide (fd.defaults = .none) && codeIn K fd.code fd.qualname &&
    (match fd.code with
    | .ref cda => (match K.lookup cda with
      | some ⟨_, _, .fields vs, _⟩ => vsFile vs file
      | _ => false)
    | _ => false) &&
    (match fd.closure with
    | [(n, cc)] => decide (n = "__class__") && (match K.lookup cc with
      | some ⟨_, _, .cell (some (.ref D)), _⟩ => decide (D = C)
      | _ => false)
    | _ => false)
  | _ => false
def clsObjB (C : Addr) (o : Option Obj) : Bool := match o with
  | some ⟨.type "type", _, .cls cd, sl⟩ => (match cd.mro, sl.toList with
    | .ref C' :: bm, [_, _, _, _, some (.builtin n), _] => C' == C && n == "ValueError.__new__" && !cd.hasDel && cd.hasDict && refsVE bm
    | _, _ => false)
  | _ => false
/-- the error class at C, its __init__ at fI, its field f -/
def errB (K : Frag) (file f : Str) (C fI : Addr) : Bool :=
  clsObjB C (K.lookup C) && fnB K file f C (K.lookup fI) &&
  He.eqO (findIn K (.ref C) "__setattr__") (some (some (.builtin "object.__setattr__"))) && He.eqO (findIn K (.ref C) "__getattribute__") (some (some (.builtin "BaseException.__getattribute__"))) &&
  He.eqO (findIn K (.ref C) "__getattr__") (some none) && He.eqO (findIn K (.ref C) f) (some none) && He.eqO (findIn K (.ref C) "__init__") (some (some (.ref fI))) &&
  decide (typeIn K (.ref fI) = some (.type "function")) && keepIn K (.ref C) && decide (subIn K (.ref C) (.type "BaseException") = some true) && decide (subIn K (.ref C) (.type "ValueError") = some true) &&
  decide (typeIn K (.ref C) = some (.type "type")) && hasDictIn K C && decide (mroIn K C (.ref C) = some true) && He.eqO (ks_superIn K C C "__init__") (some (some (.builtin "ValueError.__init__"))) &&
  He.eqO (nsIn K mainGlobals "super") (some none) && He.eqO (nsIn K cStatics "thirdparty.any") (some none)
structure ErrT (K : Frag) (file f : Str) (C fI : Addr) : Prop where
  cls : ∃ nm q N bs bm sn sub ab col dd k0 k1 k2 k3 k5, K.lookup C = some (excClassObj nm q C N bs bm true sn sub ab col dd k0 k1 k2 k3 k5 "ValueError.__new__") ∧ refsVE bm = true
  sa : findIn K (.ref C) "__setattr__" = some (some (.builtin "object.__setattr__"))
  ga : findIn K (.ref C) "__getattribute__" = some (some (.builtin "BaseException.__getattribute__"))
  gg : findIn K (.ref C) "__getattr__" = some none
  noN : findIn K (.ref C) f = some none
  iC : findIn K (.ref C) "__init__" = some (some (.ref fI))
  tC : typeIn K (.ref fI) = some (.type "function")
  kC : keepIn K (.ref C) = true
  exC : subIn K (.ref C) (.type "BaseException") = some true
  veC : subIn K (.ref C) (.type "ValueError") = some true
  tyC : typeIn K (.ref C) = some (.type "type")
  hdC : hasDictIn K C = true
  moC : mroIn K C (.ref C) = some true
  suC : ks_superIn K C C "__init__" = some (some (.builtin "ValueError.__init__"))
  sup : nsIn K mainGlobals "super" = some none
  opq : nsIn K cStatics "thirdparty.any" = some none
  fn : ∃ (oc : Value) (od : Option Addr) (osl : Array (Option Value)) (nm q : Str) (p1 p2 : Arg) (sc : Scope) (kV doc pm : Value) (an : Option Addr) (ct : Value) (cda cc : Addr) (z : Str) (j : Nat) (b0 b1 b2 b3 b4 b5 q1 q2 q3 q4 : Pos),
    K.lookup fI = some ⟨oc, od, .func (ksFn nm q ⟨[], [p1, p2], none, [], [], none, []⟩ [.Expr (.Call (.Attribute (.Call (.Name "super" b0) [] [] b1) "__init__" b2) [.Constant (.str z) j b3] [] b4) b5, .Assign [.Attribute (.Name "self" q1) f q2] (.Name f q3) q4] sc .none kV doc pm an (.ref cda) ct cc), osl⟩ ∧
    p1.arg = "self" ∧ p2.arg = f ∧ sc.kind = .function ∧ sc.isGenerator = false ∧ sc.isCoroutine = false ∧ (∀ y ∈ sc.names, y.2 ≠ .cell) ∧ sc.names.lookup ("super" : Str) = some .globalImplicit ∧ sc.names.lookup ("__class__" : Str) = some .free ∧
    sc.names.lookup ("self" : Str) = some .local ∧ sc.names.lookup f = some .local ∧ f ≠ "self" ∧ f ≠ "__debug__" ∧ (b2.endLine == b4.line) = true ∧ codeIn K (.ref cda) q = true ∧
    (∃ ccl cdd vs ccs file' tf, K.lookup cda = some ⟨ccl, cdd, .fields vs, ccs⟩ ∧ vs[2]? = some (.str file' tf) ∧ (file == file') = true) ∧ ∃ cl cld csl, K.lookup cc = some ⟨cl, cld, .cell (some (.ref C)), csl⟩
theorem clsObj_of {C : Addr} {o : Option Obj} (h : clsObjB C o = true) : ∃ nm q N bs bm sn sub ab col dd k0 k1 k2 k3 k5, o = some (excClassObj nm q C N bs bm true sn sub ab col dd k0 k1 k2 k3 k5 "ValueError.__new__") ∧ refsVE bm = true := by
  unfold clsObjB at h
  split at h
  · rename_i dd cd sl
    split at h
    · rename_i C' bm k0 k1 k2 k3 n k5 hm hs
      simp only [Bool.and_eq_true, beq_iff_eq, Bool.not_eq_true'] at h
      obtain ⟨⟨⟨⟨rfl, rfl⟩, hdel⟩, hd⟩, ht⟩ := h
      obtain ⟨nm, bs, mro, ns, qn, hd', sn, sub, ab, col, del⟩ := cd
      dsimp only at hm hdel hd
      subst hm hdel hd
      have hsl : sl = #[k0, k1, k2, k3, some (.builtin "ValueError.__new__"), k5] := by
        obtain ⟨l⟩ := sl
        simp only at hs
        rw [hs]
      subst hsl
      exact ⟨nm, qn, ns, bs, bm, sn, sub, ab, col, dd, k0, k1, k2, k3, k5, rfl, ht⟩
    · cases h
  · cases h
theorem fn_of_B {K : Frag} {file f : Str} {C : Addr} {o : Option Obj} (h : fnB K file f C o = true) : ∃ (oc : Value) (od : Option Addr) (osl : Array (Option Value)) (nm q : Str) (p1 p2 : Arg) (sc : Scope) (kV doc pm : Value) (an : Option Addr) (ct : Value) (cda cc : Addr) (z : Str) (j : Nat) (b0 b1 b2 b3 b4 b5 q1 q2 q3 q4 : Pos),
    o = some ⟨oc, od, .func (ksFn nm q ⟨[], [p1, p2], none, [], [], none, []⟩ [.Expr (.Call (.Attribute (.Call (.Name "super" b0) [] [] b1) "__init__" b2) [.Constant (.str z) j b3] [] b4) b5, .Assign [.Attribute (.Name "self" q1) f q2] (.Name f q3) q4] sc .none kV doc pm an (.ref cda) ct cc), osl⟩ ∧
    p1.arg = "self" ∧ p2.arg = f ∧ sc.kind = .function ∧ sc.isGenerator = false ∧ sc.isCoroutine = false ∧ (∀ y ∈ sc.names, y.2 ≠ .cell) ∧ sc.names.lookup ("super" : Str) = some .globalImplicit ∧ sc.names.lookup ("__class__" : Str) = some .free ∧
    sc.names.lookup ("self" : Str) = some .local ∧ sc.names.lookup f = some .local ∧ f ≠ "self" ∧ f ≠ "__debug__" ∧ (b2.endLine == b4.line) = true ∧ codeIn K (.ref cda) q = true ∧
    (∃ ccl cdd vs ccs file' tf, K.lookup cda = some ⟨ccl, cdd, .fields vs, ccs⟩ ∧ vs[2]? = some (.str file' tf) ∧ (file == file') = true) ∧ ∃ cl cld csl, K.lookup cc = some ⟨cl, cld, .cell (some (.ref C)), csl⟩ := by
  unfold fnB at h
  split at h
  · rename_i oc od fd osl
    obtain ⟨nm, q, ps, b, sc, gl, clo, dV, kV, doc, pm, an, cdv, ct, bl⟩ := fd
    simp only [Bool.and_eq_true, decide_eq_true_eq] at h
    obtain ⟨⟨⟨⟨⟨⟨h1, h2⟩, h3⟩, h4⟩, h5⟩, h6⟩, h7⟩ := h
    subst h2 h3 h4
    unfold initB at h1
    simp only [Bool.and_eq_true, decide_eq_true_eq, Bool.not_eq_true', List.all_eq_true] at h1
    obtain ⟨⟨⟨⟨⟨⟨⟨⟨⟨⟨⟨g1, g2⟩, g3⟩, g4⟩, g5⟩, g6⟩, g7⟩, g8⟩, g9⟩, g10⟩, g11⟩, g12⟩ := h1
    split at g1
    · rename_i a c
      simp only [Bool.and_eq_true, decide_eq_true_eq] at g1
      split at g2
      · rename_i s0 b0 b1 i0 b2 z j b3 b4 b5 s1 q1 g q2 g' q3 q4
        simp only [Bool.and_eq_true, decide_eq_true_eq] at g2
        obtain ⟨⟨⟨⟨⟨rfl, rfl⟩, rfl⟩, rfl⟩, rfl⟩, g20⟩ := g2
        split at h6
        · rename_i cda
          split at h6
          · rename_i ccl cdd vs ccs hv
            split at h7
            · rename_i n cc
              simp only [Bool.and_eq_true, decide_eq_true_eq] at h7
              obtain ⟨rfl, h7⟩ := h7
              split at h7
              · rename_i cl cld D csl hc
                have hD : D = C := of_decide_eq_true h7
                subst hD
                unfold vsFile at h6
                split at h6
                · rename_i file' tf hf
                  exact ⟨oc, od, osl, nm, q, a, c, sc, kV, doc, pm, an, ct, cda, cc, z, j, b0, b1, b2, b3, b4, b5, q1, q2, q3, q4, rfl, g1.1, g1.2, g3, g4, g5, g6, g7, g8, g9, g10, g11, g12, g20, h5, ⟨ccl, cdd, vs, ccs, file', tf, hv, hf, h6⟩, cl, cld, csl, hc⟩
                · cases h6
              · cases h7
            · cases h7
          · cases h6
        · cases h6
      · cases g2
    · cases g1
  · cases h
theorem errB_ok {K : Frag} {file f : Str} {C fI : Addr} (h : errB K file f C fI = true) : ErrT K file f C fI := by
  unfold errB at h
  simp only [Bool.and_eq_true, decide_eq_true_eq] at h
  obtain ⟨⟨⟨⟨⟨⟨⟨⟨⟨⟨⟨⟨⟨⟨⟨⟨h1, h2⟩, h3⟩, h4⟩, h5⟩, h6⟩, h7⟩, h8⟩, h9⟩, h10⟩, h11⟩, h12⟩, h13⟩, h14⟩, h15⟩, h16⟩, h17⟩ := h
  exact ⟨clsObj_of h1, He.eqO_ok h3, He.eqO_ok h4, He.eqO_ok h5, He.eqO_ok h6, He.eqO_ok h7, h8, h9, h10, h11, h12, h13, h14, He.eqO_ok h15, He.eqO_ok h16, He.eqO_ok h17, fn_of_B h2⟩
theorem mcall_eq {o : Expr} {m : Str} {apos pos : Pos} {args : List Expr} {env : Env} (hf : methodCallForm args.length (backTo pos (starEach args env)) [] = true) (hl : (apos.endLine == pos.line) = true) :
    eval (.Call (.Attribute o m apos) args [] pos) env = (do
      let ov ← attributeBase o m env (eval o env)
      standAt apos.atName
      let (f, first) ← holding [ov] (getMethod ov m (do return (← importBound o env).getD true))
      callWith pos f first (backTo pos (starEach args env)) []) := by
  rw [arm_eval_Call]
  congr 1
  funext ov
  congr 1
  funext _
  show methodCall o m apos pos env ov args.length (backTo pos (starEach args env)) [] = _
  unfold methodCall calleeOf methodCallPos
  rw [hf, hl]
  rfl
/-! ### __init__ runs -/
theorem bind_two {nm q f : Str} {p1 p2 : Arg} {body : List Stmt} {sc : Scope} {kV doc pm : Value} {an : Option Addr} {cd ct : Value} {cc : Addr} {x v : Value} (e1 : p1.arg = "self") (e2 : p2.arg = f) (hf : f ≠ "self") :
    bindArgs (ksFn nm q ⟨[], [p1, p2], none, [], [], none, []⟩ body sc .none kV doc pm an cd ct cc) ⟨[x, v], []⟩ = pure [(("self" : Str), x), (f, v)] := by
  have h1 : (f == ("self" : Str)) = false := by simpa using hf
  have h2 : (("self" : Str) == f) = false := by simpa using fun z => hf z.symm
  have h3 : seqItems? Value.none = (pure none : Sem (Option (Array Value))) := by first | rfl | kernel_rfl
  unfold bindArgs
  simp only [ksFn, fnX, h3, pure_bind, bind_pure_comp, List.map_cons, List.map_nil, List.nil_append, e1, e2, List.zip_cons_cons, List.zip_nil_right, List.length_cons, List.length_nil]
  simp [List.lookup, h1, h2]

/-- what __init__ leaves of a fresh exception at x -/
structure InitEnd (h h' : Heap) (x C dx : Addr) (f : Str) (v : Value) : Prop where
  keep : ∀ b o, b ≠ x → h.get? b = some o → h'.get? b = some o
  obj : ∃ t1, h'.get? x = some { cls := .ref C, dict := some dx, data := .fields #[.ref t1, .none, .none, .none, .bool false, .none] }
  dbig : h.objs.size ≤ dx
  dne : dx ≠ x
  ns : h'.Ns1 dx (fun y => if y = f then some v else none)
theorem kept_but {K : Frag} {h h' : Heap} {x : Addr} (X : K.In h) (hx : K.lookup x = none) (k : ∀ b o, b ≠ x → h.get? b = some o → h'.get? b = some o) : K.In h' := fun a o e =>
  k a o (fun z => by rw [z, hx] at e; cases e) (X a o e)
theorem ldE {M : Model} {s : Shared} {name : Str} {scope : Scope} {L a cc : Addr} {cd : Value} {m : Str → Option Value} {x : Str} {pos : Pos} {v : Value} {Q : Value → Shared → Prop} {A : Around} {E : Value → Shared → Prop} (hn : s.heap.Ns L m) (hv : m x = some v) (h : Q v s)
    (hk : scope.kind = .function) (hl : scope.names.lookup x = some .local) (hd : (x == ("__debug__" : Str)) = false) :
    wpAny M A (eval (.Name x pos) (ksEnv name scope L a cd cc)) Q E s := wpAny_Name (wpAny_loadName_local hk hl hn hv h) hd
section
variable {prog : Program} {w : World} {A : Around} {E : Value → Shared → Prop} {R : Result → Shared → Prop} {s : Shared} {K : Frag} {mg mb : Str → Option Value} {C fI : Addr} {f : Str}
theorem err_init (T : ErrT K prog.main.file f C fI) {x t0 : Addr} {v : Value} (X : K.In s.heap) (hlim : s.heap.NoLimit) (Hg : s.heap.Ns mainGlobals mg) (Hb : s.heap.Ns builtinsNs mb) (hmb : mb "super" = bootBuiltins "super") (htop : (prog.main.scope.names.lookup ("super" : Str)).isSome = false)
    (hx : s.heap.get? x = some (excO C t0)) (hnx : K.lookup x = none) (hroom : A.depth < recursionLimit)
    (hq : ∀ h' tk dx, InitEnd s.heap h' x C dx f v → R (.ok (.ret .none)) { s with heap := h', toks := tk }) :
    codeAny (model prog w) A (.call (.ref fI) ⟨[.ref x, v], []⟩) R s := by
  obtain ⟨oc, od, osl, nm, q, p1, p2, sc, kV, doc, pm, an, ct, cda, cc, z, j, b0, b1, b2, b3, b4, b5, q1, q2, q3, q4, ho, e1, e2, hk, hgen, hco, hcell, hks, hkc, hself, hf, fs, fdb, hline, hcd, ⟨ccl, cdd, vs, ccs, file', tf, hcode, hvs, hfile⟩, cl, cld, csl, hcc⟩ := T.fn
  obtain ⟨nm', q', N, bs, bm, sn, sub, ab, col, dd, k0, k1, k2, k3, k5, hC, hbm⟩ := T.cls
  have hcl : clsIn K C = some { name := nm', bases := bs, mro := .ref C :: bm, ns := N, qualname := q', hasDict := true, slotNames := sn, subclasses := sub, abstract := ab, collection := col, hasDel := false } := by unfold clsIn; rw [hC]
  have hbind : BindsTo s (ksFn nm q ⟨[], [p1, p2], none, [], [], none, []⟩ [.Expr (.Call (.Attribute (.Call (.Name "super" b0) [] [] b1) "__init__" b2) [.Constant (.str z) j b3] [] b4) b5, .Assign [.Attribute (.Name "self" q1) f q2] (.Name f q3) q4] sc .none kV doc pm an (.ref cda) ct cc) ⟨[.ref x, v], []⟩ [("self", .ref x), (f, v)] := by
    exact .of_eq (bind_two e1 e2 fs)
  have hloc : ∀ y ∈ [(("self" : Str), Value.ref x), (f, v)], sc.names.lookup y.1 = some .local := fun y hy => by
    simp only [List.mem_cons, List.not_mem_nil, or_false] at hy
    rcases hy with rfl | rfl
    · exact hself
    · exact hf
  refine ks_codeAny_call_defAt hroom (X _ _ ho) rfl hlim (codeRec_of X hcd) rfl hbind hcell hloc (fun h₀ hns keep => ?_) hco hgen hk
  have X₀ : K.In h₀ := X.keeps keep
  have hx₀ := keep _ _ hx
  have hL : s.heap.objs.size < h₀.objs.size := hns.lt
  have hxL : s.heap.objs.size ≠ x := Nat.ne_of_gt (Heap.lt_size hx)
  have hC₀ : h₀.get? C = some _ := X₀ _ _ hC
  -- super().__init__(text)
  have hint : interactive (ksEnv q sc s.heap.objs.size fI (.ref cda) cc) = false := by unfold interactive; show (sc.kind == _ && _) = false; rw [hk]; rfl
  show PySem.wpAt _ _ _ (execs _ (ksEnv q sc s.heap.objs.size fI (.ref cda) cc)) _ _ _
  refine ks_wpAt_execs_cons (ks_wpAt_Expr_any (ks_wpAt_MethodCall (pl := (do return (← importBound (.Call (.Name "super" b0) [] [] b1) (ksEnv q sc s.heap.objs.size fI (.ref cda) cc)).getD true)) ?_ (mcall_eq rfl hline)) hint (swaps_of rfl _ _ _))
  refine ks_wpAt_super_base (env := ksEnv q sc s.heap.objs.size fI (.ref cda) cc) (ar := p1) hks hkc (by decide) rfl (X₀ _ _ ho) rfl rfl rfl (X₀ _ _ hcode) rfl hvs hfile htop ?_
  refine ks_loadName_global hk hks (loadGlobal_builtin (env := ksEnv q sc s.heap.objs.size fI (.ref cda) cc) (mg := mg) (mb := mb) (Hg.keeps keep) (mg_none_of X Hg T.sup) (Hb.keeps keep) (hmb.trans (by decide +kernel)) ⟨rfl, ?_⟩)
  refine wpAny_loadName_free hk hkc rfl ⟨_, X₀ _ _ hcc, rfl⟩ ?_
  have hns' : h₀.Ns s.heap.objs.size (fun y => [(("self" : Str), Value.ref x), (f, v)].reverse.lookup y) := hns
  have hs1 : ([(("self" : Str), Value.ref x), (f, v)].reverse.lookup ("self" : Str)) = some (.ref x) := by
    have h2 : (("self" : Str) == f) = false := by simpa using fun z => fs z.symm
    simp [List.lookup, h2]
  have hs2 : ([(("self" : Str), Value.ref x), (f, v)].reverse.lookup f) = some v := by simp [List.lookup]
  rw [e1]
  refine wpAny_loadName_local hk hself hns' hs1 ?_
  refine ks_wpAny_isType_cls hC₀ rfl ⟨rfl, ?_⟩
  refine ks_wpAny_call_super hC₀ rfl hx₀ rfl (fun c e => by cases e) (looks_mroIn X₀ T.moC) (fun h1 eso k1 => ?_)
  have X₁ : K.In h1 := X₀.keeps k1
  have hx₁ := k1 _ _ hx₀
  -- the method
  refine kxs_getMethod kxs_ValueError eso (looks_opaque X₁ T.opq) (l₀ := .ref C :: bm) ?_ rfl X₁ ?_ ?_ ?_ (by decide) ?_
  · exact fun A Q E s k q => wpAny_bind ((looks_clsIn X₁ hcl) A _ E s k (wpAny_pure q))
  · have z := T.suC
    unfold ks_superIn at z
    rw [hcl] at z
    exact z
  · have I : InstAt h1 x (excO C t0) C none := ⟨hx₁, rfl, rfl, trivial⟩
    exact I.type.andThen (looks_subIn X₁ T.veC)
  · intro z
    rw [z, hC] at hnx
    cases hnx
  have k2 : ∀ b o, h1.get? b = some o → (h1.push (kxs_mw "ValueError.__init__" x)).get? b = some o := fun b o e => Heap.get?_push_of_some _ e
  have hu : (h1.push (kxs_mw "ValueError.__init__" x)).get? h1.objs.size = some (kxs_mw "ValueError.__init__" x) := Heap.get?_push_at rfl rfl
  refine kxs_callWith (i := "ValueError.__init__") (x := x) rfl ?_
  refine Calls.evalArgs_plain ?_
  refine Calls.spliced_cons ?_
  show wpAny _ _ (eval (.Constant (.str z) j b3) (ksEnv q sc s.heap.objs.size fI (.ref cda) cc)) _ _ _
  refine Calls.Constant_str (Calls.spliced_nil ⟨hu, ?_⟩)
  -- its call: the arguments are laid anew
  have hC₂ := k2 _ _ (X₁ _ _ hC)
  have hx₂ := k2 _ _ hx₁
  refine wpAny_call (codeAny_of_tree ?_)
  show wpAny _ _ (callAny (.ref h1.objs.size) ⟨_, []⟩) _ _ _
  simp only [callAny]
  refine wpAny_bind (wpAny_load hu ?_)
  simp only [kxs_mw, show (Value.type "method-wrapper" == Value.type "method" || Value.type "method-wrapper" == Value.type "builtin_function_or_method" || Value.type "method-wrapper" == Value.type "method-wrapper") = true by decide, if_true]
  refine KFB.if_so (by decide) ?_
  refine wpAny_bind (check_bound_init F.excBase_ValueError.toExcCallFacts hC₂ hx₂ rfl ?_)
  refine wpAny_bind (wpAny_pure (wpAny_pure ?_))
  refine ⟨plainId_quiet F.excBase_ValueError.init.plain _, codeAny_builtin F.excBase_ValueError.initEntry ?_⟩
  refine exc_init_tree (cls := .ref C) (t0 := t0) (dv := none) (c2 := .none) (c3 := .none) (b4 := .bool false) hx₂ (by rw [sizeLine_eq]; show 1 ≤ 16777216; decide) fun h3 k3 hx₃ _ => ?_
  -- self.f = f
  have kk : ∀ b o, b ≠ x → h₀.get? b = some o → h3.get? b = some o := fun b o hb e => k3 b o hb (k2 b o (k1 b o e))
  have X₃ : K.In h3 := kept_but X₀ hnx kk
  have hn₃ : h3.Ns s.heap.objs.size (fun y => [(("self" : Str), Value.ref x), (f, v)].reverse.lookup y) := by
    obtain ⟨oL, es, ep, hL', r⟩ := hns'
    exact ⟨oL, es, ep, kk _ _ hxL hL', r⟩
  have fdb' : (f == ("__debug__" : Str)) = false := by simpa using fdb
  show PySem.wpAt _ _ _ (execs [.Assign [.Attribute (.Name "self" q1) f q2] (.Name f q3) q4] (ksEnv q sc s.heap.objs.size fI (.ref cda) cc)) _ _ _
  refine ks_wpAt_execs_cons (wpAt_of_wpAny (plainObj_wpAny_Assign_Attribute ?_ (swaps_of rfl _ _ _)))
  refine ldE (v := v) hn₃ hs2 (ldE (v := .ref x) hn₃ hs1 ?_ hk hself (by decide)) hk hf fdb'
  refine set_plain X₃ (ox := excO C (h1.push (kxs_mw "ValueError.__init__" x)).objs.size) (od := none) ⟨hx₃, rfl, rfl, trivial⟩ T.sa ?_
  refine exc_osa X₃ hx₃ hcl (show refsVE (.ref C :: bm) = true from hbm) rfl T.noN (fun h₄ tk₄ dx k₄ dn dne hx₄ hn₄ => ?_)
  have L3 : s.heap.objs.size < h3.objs.size := hn₃.lt
  refine wpAt_of_wpAny (wpAny_execs_nil (hq h₄ tk₄ dx ⟨fun b o hb e => k₄ b o hb (kk b o hb (keep b o e)), ⟨_, hx₄⟩, Nat.le_of_lt (Nat.lt_of_lt_of_le L3 dn), dne, hn₄⟩))
/-- a made error -/
structure OwnMade (h h' : Heap) (e C d : Addr) (f : Str) (v : Value) : Prop where
  keep : ∀ b o, h.get? b = some o → h'.get? b = some o
  new : h.objs.size ≤ e
  obj : ∃ oe vs, h'.get? e = some oe ∧ oe.cls = .ref C ∧ oe.dict = some d ∧ oe.data = .fields vs ∧ vs[1]? = some .none
  dbig : h.objs.size ≤ d
  dne : d ≠ e
  ns : h'.Ns1 d (fun y => if y = f then some v else none)
theorem one_size (v : Value) : [v].length ≤ sizeLine := by
  rw [sizeLine_eq]
  exact (by decide : 1 ≤ 16777216)
theorem err_made (T : ErrT K prog.main.file f C fI) {v : Value} (X : K.In s.heap) (hlim : s.heap.NoLimit) (Hg : s.heap.Ns mainGlobals mg) (Hb : s.heap.Ns builtinsNs mb) (hmb : mb "super" = bootBuiltins "super") (htop : (prog.main.scope.names.lookup ("super" : Str)).isSome = false)
    (hroom : A.depth + 1 < recursionLimit) (hq : ∀ h' tk e d, OwnMade s.heap h' e C d f v → R (.ok (.ret (.ref e))) { s with heap := h', toks := tk }) :
    codeAny (model prog w) A (.call (.ref C) ⟨[v], []⟩) R s := by
  obtain ⟨nm, q, N, bs, bm, sn, sub, ab, col, dd, k0, k1, k2, k3, k5, hC, hbm⟩ := T.cls
  obtain ⟨hp, g, dr, tk, os⟩ := s
  have k : ∀ b o, hp.get? b = some o → ((hp.push (kdv_tup [v])).push (excO C hp.objs.size)).get? b = some o := fun b o e => Heap.get?_push_of_some _ (Heap.get?_push_of_some _ e)
  have hget : ((hp.push (kdv_tup [v])).push (excO C hp.objs.size)).get? (hp.objs.size + 1) = some (excO C hp.objs.size) := by heap_get
  have hnx : K.lookup (hp.objs.size + 1) = none := by
    cases e : K.lookup (hp.objs.size + 1) with
    | none => rfl
    | some o =>
      have z : hp.get? (hp.objs.size + 1) = some o := X _ _ e
      exact absurd (Nat.lt_of_succ_lt (Heap.lt_size z)) (Nat.lt_irrefl _)
  refine call_own F.excBase_ValueError (fun X => refsVE_contains X bm hbm) (X _ _ hC) (looks_findIn X T.iC) (fun self => bind_fn X self T.tC) (one_size v) ?_
  refine err_init (s := ⟨(hp.push (kdv_tup [v])).push (excO C hp.objs.size), g, dr, tk, os⟩) (mg := mg) (mb := mb) T (X.keeps k) (hlim.keeps k) (Hg.keeps k) (Hb.keeps k) hmb htop hget hnx ?_ fun h' tk' dx ⟨k', ⟨t1, hx⟩, dn, dne, hns⟩ => ?_
  · show A.depth + 1 < recursionLimit
    exact hroom
  · have old : ∀ b o, hp.get? b = some o → h'.get? b = some o := fun b o e => k' b o (Nat.ne_of_lt (Nat.lt_succ_of_lt (Heap.lt_size e))) (k b o e)
    have z : hp.objs.size + 1 + 1 ≤ dx := by
      first
        | (simpa only [Heap.size_push] using dn)
        | exact dn
        | (have q := dn; rw [Heap.size_push, Heap.size_push] at q; exact q)
    exact ⟨rfl, hq h' tk' (hp.objs.size + 1) dx ⟨old, Nat.le_succ _, ⟨_, _, hx, rfl, rfl, rfl, rfl⟩, Nat.le_trans (Nat.le_trans (Nat.le_succ _) (Nat.le_succ _)) z, dne, hns⟩⟩
end
end Mp
namespace Mp
open PySem PySem.Spec L2
/-! ### the error classes that the module has -/
/-- what reading a caught error leans on -/
def xclsB (K : PySem.W.Frag) (C : Addr) : Bool := He.eqO (PySem.W.findIn K (.ref C) "__getattribute__") (some (some (.builtin "BaseException.__getattribute__"))) && He.eqO (PySem.W.findIn K (.ref C) "__getattr__") (some none) &&
  decide (PySem.W.subIn K (.ref C) (.type "BaseException") = some true) && PySem.W.hasDictIn K C && He.eqO (PySem.W.findIn K (.ref C) "__class__") (some (some (.builtin "object.__class__"))) &&
  He.eqO (PySem.W.specialIn K (.builtin "object.__class__") "__get__") (some (some (.builtin "getset_descriptor.__get__"))) && decide (PySem.W.takesIn K (.builtin "object.__class__") = some true) && decide (PySem.W.mroIn K C (.type "object") = some true)
def errAt (K : PySem.W.Frag) (file : Str) (c : Nat) : Bool := match fldsOf c with
  | [f] => errB K file f (He.ga K (clsN c)) (He.ma K (He.ga K (clsN c)) "__init__")
  | _ => true
def ErrKit (K : PySem.W.Frag) (file : Str) : Bool := (List.range excTab.length).all fun k => !isKnownX K (100 + k) ||
  (xclsB K (He.ga K (clsN (100 + k))) && (fldsOf (100 + k)).all (fun f => He.eqO (PySem.W.findIn K (.ref (He.ga K (clsN (100 + k)))) f) (some none)) && errAt K file (100 + k) &&
   (List.range excTab.length).all (fun j => !isKnownX K (100 + j) || (decide (PySem.W.exmOne K (.ref (He.ga K (clsN (100 + k)))) (.ref (He.ga K (clsN (100 + j)))) = some (excSub (100 + k) (100 + j))) &&
     decide (PySem.W.kitOne K (.ref (He.ga K (clsN (100 + k)))) (.ref (He.ga K (clsN (100 + j)))) = some (excSub (100 + k) (100 + j))))))
structure ErrF (K : PySem.W.Frag) (file : Str) (c : Nat) : Prop where
  ga : PySem.W.findIn K (.ref (He.ga K (clsN c))) "__getattribute__" = some (some (.builtin "BaseException.__getattribute__"))
  gg : PySem.W.findIn K (.ref (He.ga K (clsN c))) "__getattr__" = some none
  ex : PySem.W.subIn K (.ref (He.ga K (clsN c))) (.type "BaseException") = some true
  hd : PySem.W.hasDictIn K (He.ga K (clsN c)) = true
  ca : PySem.W.findIn K (.ref (He.ga K (clsN c))) "__class__" = some (some (.builtin "object.__class__"))
  cn : PySem.W.specialIn K (.builtin "object.__class__") "__get__" = some (some (.builtin "getset_descriptor.__get__"))
  ct : PySem.W.takesIn K (.builtin "object.__class__") = some true
  cm : PySem.W.mroIn K (He.ga K (clsN c)) (.type "object") = some true
  no : ∀ f ∈ fldsOf c, PySem.W.findIn K (.ref (He.ga K (clsN c))) f = some none
  er : ∀ f, fldsOf c = [f] → ErrT K file f (He.ga K (clsN c)) (He.ma K (He.ga K (clsN c)) "__init__")
  em : ∀ d, isKnownX K d = true → PySem.W.exmOne K (.ref (He.ga K (clsN c))) (.ref (He.ga K (clsN d))) = some (excSub c d)
  ki : ∀ d, isKnownX K d = true → PySem.W.kitOne K (.ref (He.ga K (clsN c))) (.ref (He.ga K (clsN d))) = some (excSub c d)
theorem knownX_lt {K : PySem.W.Frag} {c : Nat} (h : isKnownX K c = true) : ∃ k, k < excTab.length ∧ c = 100 + k := by
  unfold isKnownX at h
  simp only [Bool.and_eq_true, decide_eq_true_eq] at h
  exact ⟨c - 100, by omega, by omega⟩
theorem knownX_ns {K : PySem.W.Frag} {c : Nat} (h : isKnownX K c = true) : PySem.W.nsIn K mainGlobals (clsN c) = some (some (.ref (He.ga K (clsN c)))) := by
  unfold isKnownX at h
  simp only [Bool.and_eq_true] at h
  exact He.eqO_ok h.2
theorem known_ns {K : PySem.W.Frag} {c : Nat} (h : isKnown K c = true) : PySem.W.nsIn K mainGlobals (clsN c) = some (some (.ref (He.ga K (clsN c)))) := by
  unfold isKnown at h
  simp only [Bool.and_eq_true] at h
  exact He.eqO_ok h.2
theorem ErrKit.at {K : PySem.W.Frag} {file : Str} {c : Nat} (k : ErrKit K file = true) (hc : isKnownX K c = true) : ErrF K file c := by
  obtain ⟨i, hi, rfl⟩ := knownX_lt hc
  have h := List.all_eq_true.mp k i (List.mem_range.mpr hi)
  rw [hc] at h
  simp only [Bool.not_true, Bool.false_or, Bool.and_eq_true] at h
  obtain ⟨⟨⟨h1, h2⟩, h3⟩, h4⟩ := h
  unfold xclsB at h1
  simp only [Bool.and_eq_true, decide_eq_true_eq] at h1
  obtain ⟨⟨⟨⟨⟨⟨⟨a1, a2⟩, a3⟩, a4⟩, a5⟩, a6⟩, a7⟩, a8⟩ := h1
  have h5 : ∀ d, isKnownX K d = true → PySem.W.exmOne K (.ref (He.ga K (clsN (100 + i)))) (.ref (He.ga K (clsN d))) = some (excSub (100 + i) d) ∧ PySem.W.kitOne K (.ref (He.ga K (clsN (100 + i)))) (.ref (He.ga K (clsN d))) = some (excSub (100 + i) d) := fun d hd => by
    obtain ⟨j, hj, rfl⟩ := knownX_lt hd
    have q := List.all_eq_true.mp h4 j (List.mem_range.mpr hj)
    rw [hd] at q
    simpa using q
  refine ⟨He.eqO_ok a1, He.eqO_ok a2, a3, a4, He.eqO_ok a5, He.eqO_ok a6, a7, a8, fun f hf => He.eqO_ok (List.all_eq_true.mp h2 f hf), fun f hf => ?_, fun d hd => (h5 d hd).1, fun d hd => (h5 d hd).2⟩
  unfold errAt at h3
  rw [hf] at h3
  exact errB_ok h3
/-- how an error stands: its class's number, its fields -/
def ERx (K : Kc) : ExT := fun g n H c fs cls dd => isKnownX K.K c = true ∧ cls = .ref (CL K c) ∧ ∃ d vs, dd = some d ∧ vs.length = (fldsOf c).length ∧ (H d = some (.xd ((fldsOf c).zip vs)) ∧ ¬ g.W d) ∧ Reps K g n H fs vs
theorem ERx_ok {K : Kc} : ExOk (ERx K) := by
  rintro g g' n H c fs cls dd hW hio ⟨h1, h2, d, vs, h3, h4, ⟨h5, h6⟩, h7⟩
  exact ⟨h1, h2, d, vs, h3, h4, ⟨h5, fun z => h6 ((hW d).mp z)⟩, h7.kp (Kp.sameW hW hio)⟩
section
variable {X : Cx} {ER : ExT} {Wx : WX} {C : Calls} {m : Bool}
theorem relO_one {f : Str} {v : V} {v' : Value} (r : RelV v v') (g : Str) : RelO (List.lookup g [(f, v)]) (if g = f then some v' else none) := by
  by_cases hw : g = f
  · subst hw
    rw [if_pos rfl]
    have q : List.lookup g [(g, v)] = some v := by simp [List.lookup]
    rw [q]
    exact r
  · rw [if_neg hw]
    have qw : (g == f) = false := by simpa using hw
    have q2 : List.lookup g [(f, v)] = none := by simp [List.lookup, qw]
    rw [q2]
    trivial
/-- X(e) -/
def tMkErr (Cl : Addr) (f : Str) (ta : TA) : L2.St → Hp → XK → Prop := fun σ H Q => ta σ H fun vs H1 => ∃ v, vs = [v] ∧ ∀ d, H1 d = none → Q (.ref Cl) (some d) (upd H1 d (.xd [(f, v)]))
theorem pmk_err {Cl fI : Addr} {f x : Str} {a : Expr} {ta : TA} {p pos : Pos} {k : Nat} (T : ErrT X.K X.prog.main.file f Cl fI) (htop : (X.prog.main.scope.names.lookup ("super" : Str)).isSome = false) (hr : Room k X.A) (hg : Gl X x) (hm : X.mg x = some (.ref Cl)) (hd : (x == ("__debug__" : Str)) = false)
    (ha : PA X [a] ta) (hs : notStar a = true) : PMk X (.Call (.Name x p) [a] [] pos) (tMkErr Cl f ta) := by
  intro pins s σ H Q I h
  refine wpAny_Call_Name_kw (ld_glob I hg hm ?_ hd)
  refine PySem.W.callWith_K (h₀ := X.base) I.ok.mod.kin T.kC (thn (ha.run pos pins s σ H _ I h) fun us s1 hh => ?_) (star_of hs _ _) rfl
  obtain ⟨vs, H1, I1, r1, v, ev, q1⟩ := hh
  subst ev
  refine ⟨I1.kIn, ?_⟩
  cases r1 with
  | cons rv rn =>
    rename_i v' us'
    cases rn
    show wpAny _ _ (call (.ref Cl) [v']) _ _ _
    have hlim := I1.nolimit
    obtain ⟨mb, hb1, hb2⟩ := I1.mod.blt
    have Hg : s1.heap.Ns mainGlobals X.mg := I1.mod.glob.keeps I1.bk
    have Hb : s1.heap.Ns builtinsNs mb := hb1.keeps I1.bk
    obtain ⟨hp, g, dr, tk, os⟩ := s1
    refine wpAny_call (err_made T I1.kIn hlim Hg Hb (hb2 "super" (by decide)) htop (by have := hr.dp; omega) fun h' tk' e d M => ?_)
    show MkP X pins σ Q (.ref e) ⟨h', g, dr, tk', os⟩
    obtain ⟨oe, fv, hoe, hc, hd, hdat, h1⟩ := M.obj
    have hns := M.ns
    obtain ⟨G', g1, g2⟩ := restrict h' fun b => decide (b ≠ e)
    have gk : ∀ b, b ≠ e → G'.get? b = h'.get? b := fun b hb => g1 b (decide_eq_true hb)
    have ge : G'.get? e = none := g2 e (by simp)
    have old : ∀ b o, hp.get? b = some o → G'.get? b = some o := fun b o q => (gk b (Nat.ne_of_lt (Nat.lt_of_lt_of_le (Heap.lt_size q) M.new))).trans (M.keep b o q)
    have ob : ObjOk X.prog X.w (upd H1 d (.xd [(f, v)])) G' d (.xd [(f, v)]) :=
      ⟨_, hns.at (fun o q => (gk d M.dne).trans q), fun g => relO_one rv g⟩
    have J : Inv X pins σ (upd H1 d (.xd [(f, v)])) ⟨G', g, dr, tk', os⟩ := I1.laid (t' := tk') old M.dbig ob
    refine ⟨e, oe, fv, ⟨G', g, dr, tk', os⟩, _, .ref Cl, some d, rfl, J, fun b o q => ?_, ge, hoe, ⟨hc, hd⟩, hdat, h1, ?_, rfl, I1.bare, raises_own T.exC T.tyC, q1 d (I1.hok.fresh M.dbig)⟩
    · by_cases hb : b = e
      · have q' : G'.get? b = some o := q
        rw [hb, ge] at q'; cases q'
      · exact (gk b hb).symm.trans q
    · rw [upd_ne (Ne.symm M.dne)]
      exact I1.hok.fresh M.new
/-- raise X(e) -/
theorem ss_rais {c : Nat} {f x : Str} {a : Expr} {ts : List Ex} {p pos pos2 : Pos} {k : Nat} (hc : X.calm = true) (hER : ER = ERx ⟨X.K, none⟩) (kit : ErrKit X.K X.prog.main.file = true) (hkn : isKnownX X.K c = true) (hf : fldsOf c = [f]) (hx : x = clsN c) (hm : X.mg x = some (.ref (He.ga X.K (clsN c))))
    (htop : (X.prog.main.scope.names.lookup ("super" : Str)).isSome = false) (hr : Room k X.A) (hg : Gl X x) (hd : (x == ("__debug__" : Str)) = false) (tk : Takes X Wx) (ha : SL X ER Wx C [a] ts) (hl : ts.length = 1) (hs : notStar a = true) :
    SS X ER Wx C m (.Raise (some (.Call (.Name x p) [a] [] pos)) none pos2) (.rais c ts) := by
  have T := (ErrKit.at kit hkn).er f hf
  refine psImp (ps_raise hc tk (pmk_err T htop hr hg hm hd ha hs)) fun D s H ⟨g, st, E, A, w, hn, hr, hb, hct, hx⟩ => ?_
  simp only [wS] at w
  refine ⟨g, st, _, _, A, w, fun ds st1 vs g1 H1 ⟨hlen, q⟩ x1 A1 r1 hl1 => ?_, fun c fs st' cls dd g' H' q x A' r => hx _ _ _ _ _ _ _ _ q x A' r⟩
  rw [hl] at hl1
  match vs, hl1, r1 with
  | [v], _, r1 =>
    refine ⟨v, rfl, fun d hd => ?_⟩
    obtain ⟨A2, x2⟩ := A1.alloc hd (.xd [(f, v)])
    refine hx _ _ _ _ _ _ _ _ q (x1.trans x2) A2 ?_
    rw [hER, ← kz_calm hc]
    refine ⟨hkn, rfl, d, [v], rfl, by rw [hf]; rfl, ⟨?_, A1.unW hd⟩, r1.kp (x2.kp A1.mw)⟩
    rw [hf, upd_same]
    rfl
end
end Mp
namespace L2
open PySem PySem.Spec PyProof.Rows
/-- what is wanted behind an except suite -/
def unAt (D : Ends) (i : Nat) : Ends := { nx := fun σ' H' => D.nx (σ'.set i none) H', rt := D.rt, bk := fun σ' H' => D.bk (σ'.set i none) H', ct := fun σ' H' => D.ct (σ'.set i none) H' }
/-- what the clauses wish of an exception of the body, one after the other -/
def wManyAs (K : PySem.W.Frag) (Wout : WX) (D : Ends) : List (Value × Nat × (Addr → Obj → List (Addr × Obj) → Value → Option Addr → TS)) → WX
  | [] => Wout
  | (c, i, ts) :: r => fun cls d σ H => ∃ b, PySem.W.exmOne K cls c = some b ∧ (b = true → ∀ a oe pn, Zc cls d oe → (∃ vs, oe.data = .fields vs) → H a = none → ts a oe pn cls d (unAt D i) (σ.set i (some (.ref a))) H) ∧ (b = false → wManyAs K Wout D r cls d σ H)
inductive HdsAs (X : Cx) : List ExceptHandler → List (Value × Nat × (Addr → Obj → List (Addr × Obj) → Value → Option Addr → TS)) → Prop
  | nil : HdsAs X [] []
  | cons {x n : Str} {c : Value} {i : Nat} {ts : Addr → Obj → List (Addr × Obj) → Value → Option Addr → TS} {b₀ : Stmt} {suite : List Stmt} {np pos' : Pos} {hds : List ExceptHandler} {l : List (Value × Nat × (Addr → Obj → List (Addr × Obj) → Value → Option Addr → TS))} (hc : Names X x c) (hi : X.N[i]? = some n) (hln : X.env.kindOf n = some .local)
      (hsu : ∀ (a : Addr) (oe : Obj) (cls : Value) (d : Option Addr) (pn : List (Addr × Obj)), Zc cls d oe → (∃ vs, oe.data = .fields vs) → PSs (X.suite a ((a, oe) :: pn)) (b₀ :: suite) (ts a oe pn cls d)) (r : HdsAs X hds l) :
      HdsAs X (.ExceptHandler (some (.Name x np)) (some n) (b₀ :: suite) pos' :: hds) ((c, i, ts) :: l)
section
variable {X : Cx} {body : List Stmt} {h₀ : ExceptHandler} {hds : List ExceptHandler} {l : List (Value × Nat × (Addr → Obj → List (Addr × Obj) → Value → Option Addr → TS))} {pos : Pos} {tb : WX → TS} {Wout : WX}
theorem ps_try_manyAs (hs : X.stack = X.env :: X.outer) (hf : X.env.frame = some X.env.locals) (hN : X.N.Nodup) (tk : Takes X Wout)
    (hb : ∀ (W : WX) (pn : List (Addr × Obj)) (xe : Value → Shared → Prop), Takes (X.tr pn xe) W → PassesOwn (model X.prog X.w) X.A X.env xe → PSs (X.tr pn xe) body (tb W))
    (hh : HdsAs X (h₀ :: hds) l) : PS X (.Try body (h₀ :: hds) [] [] pos) (fun D σ H => tb (wManyAs X.K Wout D l) D σ H) := by
  refine ⟨fun pins s σ H D I h => ?_⟩
  have ok := I.ok
  have hfr : X.A.frames = some (X.env :: X.outer) := by rw [ok.frames, hs]
  refine wpAny_Try_except ?_
  refine wpAny_mono ((hb (wManyAs X.K Wout D l) (X.pn ++ pins) (fun e s₁ => wpAny (model X.prog X.w) X.A (noteFrame e X.env) (fun _ s₂ => wpAny (model X.prog X.w) X.A (setFlight e none) (fun _ s₃ =>
    wpAny (model X.prog X.w) X.A (handleBy e X.env (h₀ :: hds)) (SP X pins D) X.xe s₃) X.xe s₂) X.xe s₁) (fun u s' xx => ?_) PassesOwn.looking).run [] s σ H D (I.toTry _) h) (fun f s1 hsp => ?_) (fun e s1 he => he)
  · -- the catch
    obtain ⟨a, B, sI, pins', σ', H', cls, d, rfl, J', nb, up, sky, na, os, ag, w⟩ := xx
    have J : Inv X pins σ' H' sI := J'.ofTry ok
    have sky' : Sky B (X.env :: X.outer) a (Zc cls d) X.env.locals s'.heap := by rw [← hs]; exact sky
    show wpAny (model X.prog X.w) X.A (noteFrame (.ref a) X.env) _ _ _
    refine Sky.land Zc.steady hfr hf sky' fun h3 fl3 up3 => ?_
    have J3 : Inv X pins σ' H' { s' with heap := h3 } := J.landed nb fl3.1 (up.trans up3) os ag
    obtain ⟨oe3, vs3, he3, hz3, hd3⟩ := fl3.there
    have notFr : ∀ {h : Heap} {o : Obj} {vs : Array Value}, h.FunFrames B (X.env :: X.outer) → h.get? a = some o → o.data = .fields vs → a ∉ frs (X.env :: X.outer) := fun {h o vs} ff e dd hm => by
      obtain ⟨_, o', e', hnf⟩ := ff.mem hm
      rw [e] at e'; cases e'
      exact hnf _ dd
    have nfr := notFr fl3.2.2.1 he3 hd3
    have nL : a ≠ X.env.locals := fun z => nfr (List.mem_filterMap.mpr ⟨X.env, List.mem_cons_self, by rw [hf, z]⟩)
    have nF : a ∉ X.fs := fun hm => by
      obtain ⟨e, he, q⟩ := List.mem_filterMap.mp hm
      exact nfr (List.mem_filterMap.mpr ⟨e, List.mem_cons_of_mem _ he, q⟩)
    have S3 := J3.suite he3 hd3 na nL nF
    have go : ∀ {hds' : List ExceptHandler} {l' : List (Value × Nat × (Addr → Obj → List (Addr × Obj) → Value → Option Addr → TS))}, HdsAs X hds' l' → wManyAs X.K Wout D l' cls d σ' H' →
        wpAny (model X.prog X.w) X.A (handleBy (.ref a) X.env hds') (SP X pins D) X.xe { s' with heap := h3 } := by
      intro hds' l' hk
      induction hk with
      | nil =>
        intro w
        refine wpAny_handleBy_nil ?_
        obtain ⟨k1, k2, k3, oe, vs, T, oT, ts', he, hz, hd, h1, hr⟩ := id fl3
        unfold PySem.passOn
        refine wpAny_bind (wpAny_field he hd h1 ?_)
        rw [if_neg (show ¬ ((Value.ref T == Value.none) = true) from by simp)]
        have fin : wpAny (model X.prog X.w) X.A (setFlight (.ref a) X.env.frame) (fun _ s4 => wpAny (model X.prog X.w) X.A (throw (.ref a) : Sem Flow) (SP X pins D) X.xe s4) X.xe { s' with heap := h3 } := by
          rw [hf]
          refine HandSPX.setFlight_upZ fl3 fun h4 hh4 up4 => wpAny_throw (tk _ _ ?_)
          exact ⟨a, B, sI, pins, σ', H', cls, d, rfl, J, nb, (up.trans up3).trans up4, .inr (.inr (by rw [hs]; exact hh4)), na, os, ag, w⟩
        first
          | exact wpAny_bind (wpAny_pure (wpAny_bind fin))
          | exact wpAny_bind fin
      | @cons x n c i ts b₀ suite np pos' hds2 l2 hc hi hln hsu r ih =>
        intro w
        obtain ⟨b, hb1, hyes, hno⟩ := w
        refine wpAny_handleBy_cons (codeAny_handlers_test ?_) (by intro q; cases q)
        have LT : PySem.W.Looks (model X.prog X.w) h3 (typeOf (.ref a)) cls := fun A Q E s k q => wpAny_typeOf_ref (k _ _ he3) (by rw [hz3.1]; exact q)
        have LM := PySem.W.exm_one (M := model X.prog X.w) (J3.kIn) LT hb1
        have test : ∀ {Q : Value → Shared → Prop} {E : Value → Shared → Prop}, Q c { s' with heap := h3 } → wpAny (model X.prog X.w) (X.A.mark (some (.ref a))) (eval (.Name x np) X.env) Q E { s' with heap := h3 } := fun {Q E} q => by
          obtain ⟨hg, hdbg, hm | ⟨hm, hv, hnn⟩⟩ := hc
          · exact ld_glob (X := X.suite a ((a, oe3) :: (X.pn ++ pins))) S3 hg hm q hdbg
          · exact ld_blt (X := X.suite a ((a, oe3) :: (X.pn ++ pins))) S3 hg hm hv q hnn hdbg
        refine test (LM.here ?_)
        cases b with
        | true =>
          refine codeAny_handlers_suite_as ?_
          refine HandSPX.lands_againZ fl3 fun h4 fl4 up4 => ?_
          have J4 : Inv X pins σ' H' { s' with heap := h4 } := J.landed nb fl4.1 ((up.trans up3).trans up4) os ag
          obtain ⟨oe4, vs4, he4, hz4, hd4⟩ := fl4.there
          have S4 := J4.suite he4 hd4 na nL nF
          have hloc : Loc X.env.scope n := .inl hln
          refine store_ok (X := X.suite a ((a, oe4) :: (X.pn ++ pins))) (v := .ref a) S4 hN hi hloc rfl (fun s5 S5 => ?_) (.inr hln)
          refine wpAny_mono ((hsu a oe4 cls d (X.pn ++ pins) hz4 ⟨_, hd4⟩).run [] s5 _ H' _ S5 (hyes rfl a oe4 (X.pn ++ pins) hz4 ⟨_, hd4⟩ na)) (fun f s6 hsp => ?_) (fun _ _ z => False.elim z)
          have end_ : ∀ {σ6 : St} {H6 : Hp} {Q : Shared → Prop}, Inv (X.suite a ((a, oe4) :: (X.pn ++ pins))) [] σ6 H6 s6 → (∀ s7, Inv X pins (σ6.set i none) H6 s7 → Q s7) →
              wpAny (model X.prog X.w) X.A (do bindName X.env n .none; unbindBehindTheSuite X.env n pos') (fun _ s7 => Q s7) X.xe s6 := fun {σ6 H6 Q} S6 hq => gone_ok (S6.unsuite ok) hN hi hln hq
          cases f with
          | next =>
            obtain ⟨σ6, H6, S6, q6⟩ := hsp
            exact end_ S6 fun s7 J7 => ⟨_, _, J7, q6⟩
          | brk =>
            obtain ⟨σ6, H6, S6, q6⟩ := hsp
            exact end_ S6 fun s7 J7 => ⟨_, _, J7, q6⟩
          | cont =>
            obtain ⟨σ6, H6, S6, q6⟩ := hsp
            exact end_ S6 fun s7 J7 => ⟨_, _, J7, q6⟩
          | ret u =>
            obtain ⟨v6, σ6, H6, S6, r6, q6⟩ := hsp
            exact end_ S6 fun s7 J7 => ⟨_, _, _, J7, r6, q6⟩
        | false =>
          show wpAny _ X.A (handleBy (.ref a) X.env hds2) _ _ _
          exact ih (hno rfl)
    exact go hh w
  · cases f with
    | next =>
      obtain ⟨σ', H', J', q⟩ := hsp
      exact wpAny_execs_nil ⟨σ', H', J'.ofTry ok, q⟩
    | brk =>
      obtain ⟨σ', H', J', q⟩ := hsp
      exact ⟨σ', H', J'.ofTry ok, q⟩
    | cont =>
      obtain ⟨σ', H', J', q⟩ := hsp
      exact ⟨σ', H', J'.ofTry ok, q⟩
    | ret u =>
      obtain ⟨v, σ', H', J', r, q⟩ := hsp
      exact ⟨v, σ', H', J'.ofTry ok, r, q⟩
end
end L2
namespace Mp
open PySem PySem.Spec L2
/-! ### the written part alone matters to data -/
mutual
theorem Rep.xo {F : PySem.W.Frag} {x y : Option (Addr × Obj)} {g : Gh} {n : Nat} {H : Hp} : ∀ {d : D} {v : V}, Rep ⟨F, x⟩ g n H d v → Rep ⟨F, y⟩ g n H d v
  | .non, _, h => h
  | .bl _, _, h => h
  | .int _, _, h => h
  | .str _, _, h => h
  | .tup _, _, ⟨a, vs, e, h, r⟩ => ⟨a, vs, e, h, Reps.xo r⟩
  | .lst _, _, ⟨a, vs, e, h, r⟩ => ⟨a, vs, e, h, Reps.xo r⟩
  | .dic _ _, _, ⟨a, kk, ws, e, h, r1, r2⟩ => ⟨a, kk, ws, e, h, Reps.xo r1, Reps.xo r2⟩
  | .obj _ _, _, ⟨a, vs, e, h, r⟩ => ⟨a, vs, e, h, Reps.xo r⟩
  | .cell _, _, h => h
  | .scr _, _, ⟨a, vs, e, h, r⟩ => ⟨a, vs, e, h, Reps.xo r⟩
theorem Reps.xo {F : PySem.W.Frag} {x y : Option (Addr × Obj)} {g : Gh} {n : Nat} {H : Hp} : ∀ {ds : List D} {vs : List V}, Reps ⟨F, x⟩ g n H ds vs → Reps ⟨F, y⟩ g n H ds vs
  | [], _, h => h
  | _ :: _, _, ⟨v, r, e, h, t⟩ => ⟨v, r, e, Rep.xo h, Reps.xo t⟩
end
theorem OwR.xo {F : PySem.W.Frag} {x y : Option (Addr × Obj)} {g : Gh} {n : Nat} {H : Hp} {a : Addr} : ∀ {d : D}, OwR ⟨F, x⟩ g n H a d → OwR ⟨F, y⟩ g n H a d
  | .lst _, ⟨vs, h, r⟩ => ⟨vs, h, r.xo⟩
  | .dic _ _, ⟨kk, ws, h, r1, r2⟩ => ⟨kk, ws, h, r1.xo, r2.xo⟩
theorem CeR.xo {F : PySem.W.Frag} {x y : Option (Addr × Obj)} {g : Gh} {n : Nat} {H : Hp} {a : Addr} : ∀ {c : CO}, CeR ⟨F, x⟩ g n H a c → CeR ⟨F, y⟩ g n H a c
  | .dead, h => h
  | .lst _, ⟨m, vs, h, r⟩ => ⟨m, vs, h, r.xo⟩
  | .dic _ _, ⟨m, kk, ws, h, r1, r2⟩ => ⟨m, kk, ws, h, r1.xo, r2.xo⟩
  | .obj _ _, ⟨m, vs, h, r⟩ => ⟨m, vs, h, r.xo⟩
theorem noX_at {e : List Sl} (h : noX e = true) {i c : Nat} {fs : List D} : e[i]? ≠ some (.exc c fs) := fun z => by
  have := List.all_eq_true.mp h _ (List.mem_of_getElem? z)
  simp at this
theorem Abs.xo {F : PySem.W.Frag} {x y : Option (Addr × Obj)} {g : Gh} {st : Stt} {s : L2.St} {H : Hp} (A : Abs ⟨F, x⟩ g st s H) (hn : ∀ (i c : Nat) (fs : List D), st.e[i]? ≠ some (Sl.exc c fs)) : Abs ⟨F, y⟩ g st s H :=
  ⟨A.mw, A.wt, fun i z e => by
    obtain ⟨ov, e1, r⟩ := A.sl i z e
    refine ⟨ov, e1, ?_⟩
    cases z with
    | un => trivial
    | shr d => obtain ⟨v, e2, r⟩ := r; exact ⟨v, e2, r.xo⟩
    | own d => obtain ⟨a, e2, m, r⟩ := r; exact ⟨a, e2, m, r.xo⟩
    | exc c fs => exact absurd e (hn i c fs), A.oo, A.oc, fun l o e => (A.ce l o e).xo, A.cc⟩
/-- a slot is forgotten -/
theorem Abs.drop {K : Kc} {g : Gh} {st : Stt} {s : L2.St} {H : Hp} (A : Abs K g st s H) {i : Nat} (ov : Option V) : Abs K g ⟨st.e.set i .un, st.h⟩ (s.set i ov) H := by
  have own_of : ∀ j b, OwnAt (st.e.set i .un) (s.set i ov) j b → OwnAt st.e s j b := fun j b ⟨⟨d', h1⟩, h2⟩ => by
    by_cases hj : j = i
    · subst hj
      have hlt : j < st.e.length := by simpa using lt_of_get h1
      rw [List.getElem?_set_self hlt] at h1
      cases h1
    · rw [List.getElem?_set_ne (Ne.symm hj)] at h1 h2
      exact ⟨⟨d', h1⟩, h2⟩
  refine ⟨A.mw, A.wt, fun j x h => ?_, fun j j' b h1 h2 => A.oo j j' b (own_of j b h1) (own_of j' b h2), fun j b l h1 h2 => A.oc j b l (own_of j b h1) h2, A.ce, A.cc⟩
  by_cases hj : j = i
  · subst hj
    have hlt : j < st.e.length := by simpa using lt_of_get h
    have h' : (st.e.set j .un)[j]? = some x := h
    rw [List.getElem?_set_self hlt] at h'
    cases h'
    obtain ⟨_, e1, _⟩ := A.sl j _ (List.getElem?_eq_getElem hlt)
    exact ⟨ov, List.getElem?_set_self (lt_of_get e1), trivial⟩
  · have h' : (st.e.set i .un)[j]? = some x := h
    rw [List.getElem?_set_ne (Ne.symm hj)] at h'
    obtain ⟨ov', e1, r⟩ := A.sl j x h'
    exact ⟨ov', by rw [List.getElem?_set_ne (Ne.symm hj)]; exact e1, r⟩
section
variable {X : Cx} {ER : ExT} {Wx : WX} {C : Calls} {m : Bool}
theorem pin_of {a : Addr} {oe : Obj} {pins : List (Addr × Obj)} {σ : L2.St} {H : Hp} {s : Shared} (h : (kz X).xo = some (a, oe)) (I : Inv X pins σ H s) : s.heap.get? a = some oe := by
  have h' : (if X.calm then none else X.pn.head?) = some (a, oe) := h
  split at h'
  · cases h'
  · exact (I.pin (a, oe) (List.mem_append_left _ (List.mem_of_mem_head? h'))).1
/-- e.f, e the caught error -/
theorem se_xfl {i : Nat} {n f : Str} {p pos : Pos} (kit : ErrKit X.K X.prog.main.file = true) (hN : X.N[i]? = some n) (hv : Vis X.env.scope n) (hd : (n == ("__debug__" : Str)) = false) (hcd : (n == ("__classdict__" : Str)) = false) : SE X ER Wx C (.Attribute (.Name n p) f pos) (.xfl i f) false := by
  refine ⟨fun pins s σ H Q I h => ?_⟩
  obtain ⟨g, st, Qd, Xd, A, w, hq, hx⟩ := h
  simp only [wE] at w
  split at w
  · rename_i c fs es
    obtain ⟨k, d, e1, e2, q⟩ := w
    obtain ⟨ov, f1, a, oe, dd, vs, x1, x2, x3, x4, ⟨fv, x5⟩, x6, x7, ⟨x8, x9⟩, r⟩ := A.sl i _ es
    subst x2
    obtain ⟨v, e3, rv⟩ := r.get e2
    have F := ErrKit.at kit x6
    refine attr_of (base_of rfl _ _ _) (thn ((pe_var hN hv hd hcd).run pins s σ H (fun x H1 => x = .ref a ∧ H1 = H) I ⟨.ref a, f1, rfl, rfl⟩) fun u s1 hh => ?_)
    obtain ⟨x, H1, I1, rx, rfl, rfl⟩ := hh
    obtain rfl : u = Value.ref a := rx
    have ha := pin_of x1 I1
    have hx : ObjOk X.prog X.w H1 s1.heap dd (.xd ((fldsOf c).zip vs)) := I1.hok dd _ x8
    obtain ⟨mA, hns, hr⟩ := hx
    obtain ⟨od, ho, hl⟩ := lookIn_ns hns
    obtain ⟨u, hu, ru⟩ := RelO.some_of (v := v) (o := mA f) (by rw [← ix_lookup e1 e3]; exact hr f)
    have J : PySem.W.InstAt s1.heap a oe (CL (kz X) c) (some od) := ⟨ha, x3, by unfold PySem.W.notCls; rw [x5] <;> rfl, by rw [x4]; exact ho⟩
    exact HandSPX.exc_get I1.kIn J F.ga F.gg F.ex (PySem.W.findObj_own F.hd (F.no f (ix_mem e1)) rfl (by rw [hl, hu])) (handed_of ru) ⟨v, H1, I1.tok _, ru, hq _ _ _ _ _ q (Ext.refl _ _ _) A rv⟩
  · exact w.elim
/-- isinstance(e, X), e the caught error -/
theorem se_xis {i k : Nat} {n x : Str} {p p2 p3 pos : Pos} (kit : ErrKit X.K X.prog.main.file = true) (hN : X.N[i]? = some n) (hv : Vis X.env.scope n) (hd : (n == ("__debug__" : Str)) = false) (hcd : (n == ("__classdict__" : Str)) = false) (hg : Gl X "isinstance") (hm : X.mg "isinstance" = none)
    (hx : x = clsN k) (hkn : isKnownX X.K k = true) (hg2 : Gl X x) (hm2 : X.mg x = some (.ref (CL (kz X) k))) (hd2 : (x == ("__debug__" : Str)) = false) : SE X ER Wx C (.Call (.Name "isinstance" p) [.Name n p2, .Name x p3] [] pos) (.xis i k) false := by
  refine ⟨fun pins s σ H Q I h => ?_⟩
  obtain ⟨g, st, Qd, Xd, A, w, hq, hxx⟩ := h
  simp only [wE] at w
  split at w
  · rename_i c fs es
    obtain ⟨ov, f1, a, oe, dd, vs, x1, x2, x3, x4, ⟨fv, x5⟩, x6, x7, ⟨x8, x9⟩, r⟩ := A.sl i _ es
    subst x2
    have F := ErrKit.at kit x6
    have cr : CallR X (.builtin "isinstance") (fun xs H' Q' => xs = [.ref a, .ref (CL (kz X) k)] ∧ H' = H ∧ Q' (.bl (excSub c k)) H') := by
      intro pins' s' σ' H' xs us Q' I' r' hh
      obtain ⟨rfl, rfl, q'⟩ := hh
      obtain ⟨u1, u2, rfl, r1, r2⟩ := vals2 r'
      cases (show u1 = Value.ref a from r1)
      cases (show u2 = Value.ref _ from r2)
      have ha := pin_of x1 I'
      have hxo : ObjOk X.prog X.w H' s'.heap dd (.xd ((fldsOf c).zip vs)) := I'.hok dd _ x8
      obtain ⟨mA, hns, hr⟩ := hxo
      obtain ⟨od, ho, hl⟩ := lookIn_ns hns
      have J : PySem.W.InstAt s'.heap a oe (CL (kz X) c) (some od) := ⟨ha, x3, by unfold PySem.W.notCls; rw [x5] <;> rfl, by rw [x4]; exact ho⟩
      have hcl : (PySem.W.clsIn X.K (CL (kz X) c)).isSome = true := by
        obtain ⟨cd, hc, _⟩ := PySem.W.any_some F.hd
        exact Option.isSome_iff_exists.mpr ⟨cd, hc⟩
      exact PySem.W.kia_one (PySem.W.kitx_exc hcl F.ga F.gg F.ex F.ca F.cn F.ct F.cm) I'.kIn J (F.ki k hkn) (fun z => nomatch z) fun tk => ⟨.bl (excSub c k), H', I'.kept (t' := tk) fun _ _ z => z, rfl, q'⟩
    have h2 : PA X [.Name n p2, .Name x p3] (tCons (tVar i) (tCons (tC (.ref (CL (kz X) k))) tNil)) := pa_cons (pe_var hN hv hd hcd) (pa_cons (pe_glob hg2 hm2 rfl hd2) pa_nil (star_of rfl _ _)) (star_of rfl _ _)
    exact (pe_callB cr hg hm (by decide +kernel) h2 (by decide) (by decide) (star_of rfl _ _) (star_any rfl _ _)).run pins s σ H Q I ⟨.ref a, f1, rfl, rfl, hq _ _ _ _ _ w (Ext.refl _ _ _) A rfl⟩
  · exact w.elim
end
end Mp
namespace Mp
open PySem PySem.Spec L2
theorem Abs.setX {K : Kc} {g : Gh} {st : Stt} {s : L2.St} {H : Hp} (A : Abs K g st s H) {i c : Nat} {fs : List D} {v : V} (r : SlR K g st.h.length H (.exc c fs) (some v)) : Abs K g ⟨st.e.set i (.exc c fs), st.h⟩ (s.set i (some v)) H := by
  have own_of : ∀ j b, OwnAt (st.e.set i (.exc c fs)) (s.set i (some v)) j b → OwnAt st.e s j b := fun j b ⟨⟨d2, h1⟩, h2⟩ => by
    by_cases hj : j = i
    · subst hj
      have hl : j < st.e.length := by simpa using lt_of_get h1
      rw [List.getElem?_set_self hl] at h1; cases h1
    · rw [List.getElem?_set_ne (Ne.symm hj)] at h1 h2; exact ⟨⟨d2, h1⟩, h2⟩
  refine ⟨A.mw, A.wt, fun j x h => ?_, fun j j' b h1 h2 => A.oo j j' b (own_of j b h1) (own_of j' b h2), fun j b l h1 h2 => A.oc j b l (own_of j b h1) h2, A.ce, A.cc⟩
  by_cases hj : j = i
  · subst hj
    have hl : j < st.e.length := by simpa using lt_of_get h
    rw [List.getElem?_set_self hl] at h
    cases h
    obtain ⟨ov, e1, _⟩ := A.sl j _ (List.getElem?_eq_getElem hl)
    exact ⟨_, List.getElem?_set_self (lt_of_get e1), r⟩
  · have h' : (st.e.set i (.exc c fs))[j]? = some x := h
    rw [List.getElem?_set_ne (Ne.symm hj)] at h'
    obtain ⟨ov, e1, q⟩ := A.sl j x h'
    exact ⟨ov, by rw [List.getElem?_set_ne (Ne.symm hj)]; exact e1, q⟩
theorem RepM.xo {F : PySem.W.Frag} {x y : Option (Addr × Obj)} {g : Gh} {st : Stt} {s : L2.St} {H : Hp} {m : Bool} {d : D} {v : V} {i : Nat} {ov : Option V} (h : RepM ⟨F, x⟩ g st s H m d v) : RepM ⟨F, y⟩ g ⟨st.e.set i .un, st.h⟩ (s.set i ov) H m d v := by
  cases m with
  | false => exact Rep.xo h
  | true =>
    rcases h with ⟨a, e, ma, ow, no, nl⟩ | ⟨sc, r⟩
    · refine .inl ⟨a, e, ma, ow.xo, fun j ⟨⟨d', h1⟩, h2⟩ => ?_, nl⟩
      by_cases hj : j = i
      · subst hj
        have hl : j < st.e.length := by simpa using lt_of_get h1
        have h1' : (st.e.set j .un)[j]? = some (.own d') := h1
        rw [List.getElem?_set_self hl] at h1'
        cases h1'
      · have h1' : (st.e.set i .un)[j]? = some (.own d') := h1
        rw [List.getElem?_set_ne (Ne.symm hj)] at h1'
        rw [List.getElem?_set_ne (Ne.symm hj)] at h2
        exact no j ⟨⟨d', h1'⟩, h2⟩
    · exact .inr ⟨sc, r.xo⟩
section
variable {X : Cx} {ER : ExT} {Wx : WX} {C : Calls} {m : Bool}
/-- the handlers of a try -/
inductive HdsM (X : Cx) (ER : ExT) (C : Calls) (m : Bool) : List ExceptHandler → List (Nat × Nat) → List (List Sm) → Prop
  | nil : HdsM X ER C m [] [] []
  | cons {x n : Str} {k i : Nat} {b₀ : Stmt} {suite : List Stmt} {np pos' : Pos} {hds : List ExceptHandler} {cs : List (Nat × Nat)} {q : List Sm} {qs : List (List Sm)} (hkn : isKnownX X.K k = true) (hc : Names X x (.ref (CL (kz X) k))) (hi : X.N[i]? = some n) (hln : X.env.kindOf n = some .local)
      (hsu : ∀ (a : Addr) (oe : Obj) (pn : List (Addr × Obj)), SSs (X.suite a ((a, oe) :: pn)) ER W0 C m (b₀ :: suite) q) (r : HdsM X ER C m hds cs qs) : HdsM X ER C m (.ExceptHandler (some (.Name x np)) (some n) (b₀ :: suite) pos' :: hds) ((k, i) :: cs) (q :: qs)
def hdsL (X : Cx) (ER : ExT) (C : Calls) (m : Bool) : List (Nat × Nat) → List (List Sm) → List (Value × Nat × (Addr → Obj → List (Addr × Obj) → Value → Option Addr → TS))
  | (k, i) :: cs, q :: qs => (.ref (CL (kz X) k), i, fun a oe pn _ _ => rdSt (kz (X.suite a ((a, oe) :: pn))) ER W0 m (wSs C q)) :: hdsL X ER C m cs qs
  | _, _ => []
theorem HdsM.as {hds : List ExceptHandler} {cs : List (Nat × Nat)} {qs : List (List Sm)} (h : HdsM X ER C m hds cs qs) : HdsAs X hds (hdsL X ER C m cs qs) := by
  induction h with
  | nil => exact .nil
  | cons hkn hc hi hln hsu r ih => exact .cons hc hi hln (fun a oe cls d pn _ _ => hsu a oe pn) ih
theorem hds_wish {hds : List ExceptHandler} {cs : List (Nat × Nat)} {qs : List (List Sm)} (h : HdsM X ER C m hds cs qs) (hc : X.calm = true) (hER : ER = ERx ⟨X.K, none⟩) (kit : ErrKit X.K X.prog.main.file = true) {D : Ends} {E : EndD} {g0 : Gh} {n0 : Nat} {H0 : Hp}
    (hn : ∀ st' s' g' H', E.nx st' → Ext g0 n0 H0 g' st'.h.length H' → Abs (kz X) g' st' s' H' → D.nx s' H')
    (hr : ∀ d st' s' v g' H', E.rt d st' → Ext g0 n0 H0 g' st'.h.length H' → Abs (kz X) g' st' s' H' → RepM (kz X) g' st' s' H' m d v → D.rt v H')
    (hb : ∀ st' s' g' H', E.bk st' → Ext g0 n0 H0 g' st'.h.length H' → Abs (kz X) g' st' s' H' → D.bk s' H')
    (hct : ∀ st' s' g' H', E.ct st' → Ext g0 n0 H0 g' st'.h.length H' → Abs (kz X) g' st' s' H' → D.ct s' H')
    (hx : ∀ c fs st' s' cls dd g' H', E.ex c fs st' → Ext g0 n0 H0 g' st'.h.length H' → Abs (kz X) g' st' s' H' → ER g' st'.h.length H' c fs cls dd → Wx cls dd s' H') :
    ∀ c fs st' s' cls dd g' H', wHs C cs qs c fs st' E → Ext g0 n0 H0 g' st'.h.length H' → Abs (kz X) g' st' s' H' → ER g' st'.h.length H' c fs cls dd → wManyAs X.K Wx D (hdsL X ER C m cs qs) cls dd s' H' := by
  induction h with
  | nil =>
    intro c fs st' s' cls dd g' H' w x A r
    have w' : E.ex c fs st' := by simpa only [wHs] using w
    exact hx c fs st' s' cls dd g' H' w' x A r
  | @cons xn n k i b₀ suite np pos' hds cs q qs hkn hcn hi hln hsu r0 ih =>
    intro c fs st' s' cls dd g' H' w x A r
    have r' := r
    rw [hER] at r'
    obtain ⟨h1, h2, d, vs, h3, h4, ⟨h5, h6⟩, h7⟩ := r'
    have F := ErrKit.at kit h1
    have w' : (if excSub c k = true then wSs C q ⟨st'.e.set i (.exc c fs), st'.h⟩
      { nx := fun st2 => noX (st2.e.set i .un) = true ∧ E.nx ⟨st2.e.set i .un, st2.h⟩, rt := fun d st2 => noX (st2.e.set i .un) = true ∧ E.rt d ⟨st2.e.set i .un, st2.h⟩,
        bk := fun st2 => noX (st2.e.set i .un) = true ∧ E.bk ⟨st2.e.set i .un, st2.h⟩, ct := fun st2 => noX (st2.e.set i .un) = true ∧ E.ct ⟨st2.e.set i .un, st2.h⟩, ex := fun _ _ _ => False } else wHs C cs qs c fs st' E) := by simpa only [wHs] using w
    refine ⟨excSub c k, by rw [h2]; exact F.em k hkn, fun hb1 a oe pn hz hf na => ?_, fun hb1 => ?_⟩
    · rw [if_pos hb1] at w'
      have ek : kz X = ⟨X.K, none⟩ := kz_calm hc
      have ek2 : kz (X.suite a ((a, oe) :: pn)) = ⟨X.K, some (a, oe)⟩ := rfl
      have noexc : ∀ (j c : Nat) (fs : List Mp.D), st'.e[j]? ≠ some (Sl.exc c fs) := fun j c fs e => by
        obtain ⟨ov, _, a', oe', dd', vs', z, _⟩ := A.sl j _ e
        rw [ek] at z
        cases z
      have A1 : Abs ⟨X.K, some (a, oe)⟩ g' st' s' H' := by
        rw [ek] at A
        exact A.xo noexc
      have A2 : Abs (kz (X.suite a ((a, oe) :: pn))) g' ⟨st'.e.set i (.exc c fs), st'.h⟩ (s'.set i (some (.ref a))) H' := by
        rw [ek2]
        refine A1.setX ⟨a, oe, d, vs, rfl, rfl, ?_, ?_, hf, h1, h4, ⟨h5, h6⟩, h7.xo⟩
        · rw [hz.1, h2]
        · rw [hz.2, h3]
      have back : ∀ {st3 : Stt} {s3 : L2.St} {g3 : Gh} {H3 : Hp}, Abs (kz (X.suite a ((a, oe) :: pn))) g3 st3 s3 H3 → noX (st3.e.set i .un) = true → Abs (kz X) g3 ⟨st3.e.set i .un, st3.h⟩ (s3.set i none) H3 := fun {st3 s3 g3 H3} A3 hno => by
        have A4 := A3.drop (i := i) none
        rw [ek2] at A4
        rw [ek]
        exact A4.xo fun j c fs => noX_at hno
      refine ⟨g', _, _, A2, w', fun st3 s3 g3 H3 ⟨hno, q3⟩ x3 A3 => ?_, fun d3 st3 s3 v3 g3 H3 ⟨hno, q3⟩ x3 A3 r3 => ?_, fun st3 s3 g3 H3 ⟨hno, q3⟩ x3 A3 => ?_, fun st3 s3 g3 H3 ⟨hno, q3⟩ x3 A3 => ?_, fun _ _ _ _ _ _ _ _ z => z.elim⟩
      · exact hn _ _ _ _ q3 (x.trans x3) (back A3 hno)
      · refine hr _ _ _ _ _ _ q3 (x.trans x3) (back A3 hno) ?_
        rw [ek2] at r3
        rw [ek]
        exact r3.xo
      · exact hb _ _ _ _ q3 (x.trans x3) (back A3 hno)
      · exact hct _ _ _ _ q3 (x.trans x3) (back A3 hno)
    · rw [if_neg (by rw [hb1]; simp)] at w'
      exact ih c fs st' s' cls dd g' H' w' x A r
/-- try: .. except X as e: .. -/
theorem ss_try {body : List Stmt} {h₀ : ExceptHandler} {hds : List ExceptHandler} {pos : Pos} {qb : List Sm} {cs : List (Nat × Nat)} {qs : List (List Sm)} (hc : X.calm = true) (hER : ER = ERx ⟨X.K, none⟩) (kit : ErrKit X.K X.prog.main.file = true) (hs : X.stack = X.env :: X.outer) (hf : X.env.frame = some X.env.locals) (hN : X.N.Nodup) (tk : Takes X Wx)
    (hb : ∀ (W : WX) (pn : List (Addr × Obj)) (xe : Value → Shared → Prop), Takes (X.tr pn xe) W → PassesOwn (model X.prog X.w) X.A X.env xe → SSs (X.tr pn xe) ER W C m body qb) (hh : HdsM X ER C m (h₀ :: hds) cs qs) :
    SS X ER Wx C m (.Try body (h₀ :: hds) [] [] pos) (.tryA qb cs qs) := by
  refine psImp (ps_try_manyAs (tb := fun W => rdSt (kz X) ER W m (wSs C qb)) hs hf hN tk (fun W pn xe t p => ?_) hh.as) fun D s H ⟨g, st, E, A, w, hn, hr, hb, hct, hx⟩ => ?_
  · have e : kz (X.tr pn xe) = kz X := by rw [kz_calm hc, kz_calm (X := X.tr pn xe) hc]
    have z := hb W pn xe t p
    unfold SSs at z
    rw [e] at z
    exact z
  · simp only [wS] at w
    exact ⟨g, st, _, A, w, hn, hr, hb, hct, hds_wish hh hc hER kit hn hr hb hct hx⟩
end
end Mp
namespace Mp
open PySem PySem.Spec L2
section
variable {X : Cx} {ER : ExT} {Wx : WX} {C : Calls} {m : Bool}
theorem op_mulS : OpR X (binaryOp .Mult) rMulS := by
  intro pins s σ H x y v u Q I rx ry h
  obtain ⟨z, k, rfl, rfl, ⟨k0, k1, k2⟩, q⟩ := h
  obtain ⟨t, rfl⟩ := (show ∃ t, v = Value.str z t from rx)
  obtain ⟨t2, rfl⟩ := (show ∃ t, u = Value.int k t from ry)
  exact PySem.SB.mul (PyProof.Rows.mulOk_of 1000 1000 k2 k1 (by omega) (by decide) (by decide)) fun t' k' => ⟨.str _, H, I.tok _, ⟨_, rfl⟩, q⟩
theorem callR_or {f : Value} {r r' : List V → Hp → VK → Prop} (h : CallR X f r) (h' : CallR X f r') : CallR X f (fun xs H Q => r xs H Q ∨ r' xs H Q) := by
  intro pins s σ H xs us Q I rv q
  rcases q with q | q
  · exact h pins s σ H xs us Q I rv q
  · exact h' pins s σ H xs us Q I rv q
theorem call_list_strR (hc : X.calm = true) : CallR X (.type "list") (fun vs H Q => ∃ z : Str, vs = [.str z] ∧ z.length ≤ sizeLine ∧ ∀ l, H l = none → Q (.ref l) (upd H l (.lst (z.cps.toList.map fun c => V.str ⟨#[c]⟩)))) := by
  intro pins s σ H xs us Q I r h
  obtain ⟨z, rfl, hz, q⟩ := h
  obtain ⟨u, rfl, rx⟩ := vals1 r
  obtain ⟨t, rfl⟩ := (show ∃ t, u = Value.str z t from rx)
  refine call_list_str (I.ok.hd hc) z t (fun h' tk acc' c' hk hS hacc => ?_) hz
  have hv : Vals (z.cps.toList.map fun c => V.str ⟨#[c]⟩) acc'.toList := by
    refine vals_of_at ?_ fun j x u h1 h2 => ?_
    · rw [List.length_map, Array.length_toList, Array.length_toList]; exact hacc.1.symm
    · have h3 : acc'[j]? = some u := by rw [← Array.getElem?_toList]; exact h2
      obtain ⟨c, t', h4, rfl⟩ := hacc.2 j u h3
      rw [List.getElem?_map, Array.getElem?_toList, h4] at h1
      cases h1
      exact ⟨t', rfl⟩
  have ob : ObjOk X.prog X.w (upd H s.heap.objs.size (.lst (z.cps.toList.map fun c => V.str ⟨#[c]⟩))) h' s.heap.objs.size (.lst (z.cps.toList.map fun c => V.str ⟨#[c]⟩)) := by
    refine ⟨?_, acc'.toList, c', hv, ?_⟩
    · rw [List.length_map]; exact hz
    · rw [hS]
  exact ⟨.ref s.heap.objs.size, _, I.laid (t' := tk) hk (Nat.le_refl _) ob, rfl, q _ (I.hok.fresh (Nat.le_refl _))⟩
end
section
variable {K : Kc} {s : L2.St} {H : Hp} {Q : VK} {m : Bool}
theorem bls_rep {g : Gh} {n : Nat} : ∀ {es : List D} {ys : List Bool} {vs : List V}, blsD es = some ys → Reps K g n H es vs → vs = ys.map V.bl
  | [], ys, _, e, h => by cases e; cases h; rfl
  | .bl x :: es, ys, _, e, ⟨v, r, e2, h, t⟩ => by
    subst e2
    simp only [blsD, Option.map_eq_some_iff] at e
    obtain ⟨zs, e1, rfl⟩ := e
    cases (show v = V.bl x from h)
    rw [bls_rep e1 t]
    rfl
  | .non :: _, _, _, e, _ => by cases e
  | .str _ :: _, _, _, e, _ => by cases e
  | .int _ :: _, _, _, e, _ => by cases e
  | .tup _ :: _, _, _, e, _ => by cases e
  | .lst _ :: _, _, _, e, _ => by cases e
  | .dic _ _ :: _, _, _, e, _ => by cases e
  | .obj _ _ :: _, _, _, e, _ => by cases e
  | .exc _ _ :: _, _, _, e, _ => by cases e
  | .cell _ :: _, _, _, e, _ => by cases e
  | .scr _ :: _, _, _, e, _ => by cases e
theorem ints_rep {g : Gh} {n : Nat} : ∀ {es : List D} {ys : List Int} {vs : List V}, intsD es = some ys → Reps K g n H es vs → vs = ys.map V.int
  | [], ys, _, e, h => by cases e; cases h; rfl
  | .int x :: es, ys, _, e, ⟨v, r, e2, h, t⟩ => by
    subst e2
    simp only [intsD, Option.map_eq_some_iff] at e
    obtain ⟨zs, e1, rfl⟩ := e
    cases (show v = V.int x from h)
    rw [ints_rep e1 t]
    rfl
  | .non :: _, _, _, e, _ => by cases e
  | .str _ :: _, _, _, e, _ => by cases e
  | .bl _ :: _, _, _, e, _ => by cases e
  | .tup _ :: _, _, _, e, _ => by cases e
  | .lst _ :: _, _, _, e, _ => by cases e
  | .dic _ _ :: _, _, _, e, _ => by cases e
  | .obj _ _ :: _, _, _, e, _ => by cases e
  | .exc _ _ :: _, _, _, e, _ => by cases e
  | .cell _ :: _, _, _, e, _ => by cases e
  | .scr _ :: _, _, _, e, _ => by cases e
theorem post_all {vs : List V} (h : OpPost K s .all false vs H Q) : rAll K.K vs H Q := by
  obtain ⟨g, st, ds, Qd, A, r, w, hq⟩ := h
  obtain ⟨a, rfl, es, bs, rfl, e2, q⟩ := any1_inv (show any1 ds _ from w)
  obtain ⟨x, rfl, p, us, rfl, h1, r1⟩ := r.to1
  cases bls_rep e2 r1
  exact ⟨p, bs, rfl, SqL.of h1, OpPost.plain A hq q rfl⟩
theorem post_any {vs : List V} (h : OpPost K s .any false vs H Q) : rAny K.K vs H Q := by
  obtain ⟨g, st, ds, Qd, A, r, w, hq⟩ := h
  obtain ⟨a, rfl, es, bs, rfl, e2, q⟩ := any1_inv (show any1 ds _ from w)
  obtain ⟨x, rfl, p, us, rfl, h1, r1⟩ := r.to1
  cases bls_rep e2 r1
  exact ⟨p, bs, rfl, SqL.of h1, OpPost.plain A hq q rfl⟩
theorem post_sum {vs : List V} (h : OpPost K s .sum false vs H Q) : rSum K.K vs H Q := by
  obtain ⟨g, st, ds, Qd, A, r, w, hq⟩ := h
  obtain ⟨a, rfl, es, bs, rfl, e2, q⟩ := any1_inv (show any1 ds _ from w)
  obtain ⟨x, rfl, p, us, rfl, h1, r1⟩ := r.to1
  cases ints_rep e2 r1
  exact ⟨p, bs, rfl, SqL.of h1, OpPost.plain A hq q rfl⟩
theorem maxL_spec : ∀ {ns : List Int}, ns ≠ [] → maxL ns ∈ ns ∧ ∀ y ∈ ns, y ≤ maxL ns
  | [], h => absurd rfl h
  | [a], _ => by simp [maxL]
  | a :: b :: l, _ => by
    obtain ⟨h1, h2⟩ := maxL_spec (ns := b :: l) (by simp)
    have e : maxL (a :: b :: l) = if maxL (b :: l) > a then maxL (b :: l) else a := by simp only [maxL]
    rw [e]
    split
    · rename_i h
      refine ⟨List.mem_cons_of_mem _ h1, fun y hy => ?_⟩
      rcases List.mem_cons.mp hy with rfl | hy
      · omega
      · exact h2 y hy
    · rename_i h
      refine ⟨List.mem_cons_self, fun y hy => ?_⟩
      rcases List.mem_cons.mp hy with rfl | hy
      · exact Int.le_refl _
      · have := h2 y hy; omega
theorem minL_spec : ∀ {ns : List Int}, ns ≠ [] → minL ns ∈ ns ∧ ∀ y ∈ ns, minL ns ≤ y
  | [], h => absurd rfl h
  | [a], _ => by simp [minL]
  | a :: b :: l, _ => by
    obtain ⟨h1, h2⟩ := minL_spec (ns := b :: l) (by simp)
    have e : minL (a :: b :: l) = if minL (b :: l) < a then minL (b :: l) else a := by simp only [minL]
    rw [e]
    split
    · rename_i h
      refine ⟨List.mem_cons_of_mem _ h1, fun y hy => ?_⟩
      rcases List.mem_cons.mp hy with rfl | hy
      · omega
      · exact h2 y hy
    · rename_i h
      refine ⟨List.mem_cons_self, fun y hy => ?_⟩
      rcases List.mem_cons.mp hy with rfl | hy
      · exact Int.le_refl _
      · have := h2 y hy; omega
theorem post_maxL {vs : List V} (h : OpPost K s .maxL false vs H Q) : rMax K.K vs H Q := by
  obtain ⟨g, st, ds, Qd, A, r, w, hq⟩ := h
  obtain ⟨a, rfl, es, ns, rfl, e2, hne, q⟩ := any1_inv (show any1 ds _ from w)
  obtain ⟨x, rfl, p, us, rfl, h1, r1⟩ := r.to1
  cases ints_rep e2 r1
  obtain ⟨m1, m2⟩ := maxL_spec hne
  refine ⟨p, ns, rfl, SqL.of h1, List.length_pos_iff.mpr hne, fun k hk hk2 => ?_⟩
  have e : k = maxL ns := Int.le_antisymm (m2 k hk) (hk2 _ m1)
  subst e
  exact OpPost.plain A hq q rfl
theorem post_minL {vs : List V} (h : OpPost K s .minL false vs H Q) : rMin K.K vs H Q := by
  obtain ⟨g, st, ds, Qd, A, r, w, hq⟩ := h
  obtain ⟨a, rfl, es, ns, rfl, e2, hne, q⟩ := any1_inv (show any1 ds _ from w)
  obtain ⟨x, rfl, p, us, rfl, h1, r1⟩ := r.to1
  cases ints_rep e2 r1
  obtain ⟨m1, m2⟩ := minL_spec hne
  refine ⟨p, ns, rfl, SqL.of h1, List.length_pos_iff.mpr hne, fun k hk hk2 => ?_⟩
  have e : k = minL ns := Int.le_antisymm (hk2 _ m1) (m2 k hk)
  subst e
  exact OpPost.plain A hq q rfl
end
section
variable {X : Cx} {ER : ExT} {Wx : WX} {C : Calls} {m : Bool}
theorem Reps.rng {K : Kc} {g : Gh} {n : Nat} {H : Hp} (a b : Int) : Reps K g n H (rngL a b) (rgV a b) := by
  unfold rngL rgV
  induction (List.range (b - a).toNat) with
  | nil => rfl
  | cons k l ih => exact ⟨_, _, rfl, rfl, ih⟩
/-- list(range(n)) -/
theorem se_rng1 {a : Expr} {ta : Ex} {p p2 pos pos2 : Pos} (hc : X.calm = true) (hg : Gl X "list") (hm : X.mg "list" = none) (hg2 : Gl X "range") (hm2 : X.mg "range" = none) (ha : SO X ER Wx C a ta) (hs : notStar a = true) :
    SE X ER Wx C (.Call (.Name "list" p) [.Call (.Name "range" p2) [a] [] pos2] [] pos) (.op .rng1 [ta]) m :=
  peImp (pe_listRg hc hg hm (prg_1 hg2 hm2 ha (star_of hs _ _)) (star_of rfl _ _)) fun s H Q h => rdO_mono (rdE_op1 h) fun x H1 h1 => by
    obtain ⟨g, st, ds, Qd, A, r, w, hq⟩ := h1
    obtain ⟨i, rfl, ⟨c1, c2⟩, q⟩ := int1_inv (show int1 ds _ from w)
    obtain ⟨a', e, r1⟩ := r.one
    cases e
    exact ⟨i, r1, ⟨by omega, by omega, by omega, by omega, by omega⟩, fun p hp => new_lst A hq q (Reps.rng _ _) hp⟩
/-- list(range(a, b)) -/
theorem se_rng2 {a b : Expr} {ta tb : Ex} {p p2 pos pos2 : Pos} (hc : X.calm = true) (hg : Gl X "list") (hm : X.mg "list" = none) (hg2 : Gl X "range") (hm2 : X.mg "range" = none) (ha : SO X ER Wx C a ta) (hs : notStar a = true) (hb : SO X ER Wx C b tb) (hs2 : notStar b = true) :
    SE X ER Wx C (.Call (.Name "list" p) [.Call (.Name "range" p2) [a, b] [] pos2] [] pos) (.op .rng2 [ta, tb]) m :=
  peImp (pe_listRg hc hg hm (prg_2 hg2 hm2 ha hb (star_of hs _ _) (star_of hs2 _ _) (star_any (by simp [hs2]) _ _)) (star_of rfl _ _)) fun s H Q h => rdO_mono (rdE_op2 h) fun x H1 h1 => rdO_mono h1 fun y H2 h2 => by
    obtain ⟨g, st, ds, Qd, A, r, w, hq⟩ := h2
    obtain ⟨i, j, rfl, ⟨c1, c2, c3, c4⟩, q⟩ := int2_inv (show int2 ds _ from w)
    obtain ⟨a', b', e, r1, r2⟩ := r.two
    cases e
    exact ⟨i, j, r1, r2, ⟨by omega, by omega, by omega, by omega, by omega⟩, fun p hp => new_lst A hq q (Reps.rng _ _) hp⟩
end
end Mp
namespace Mp
open PySem PySem.Spec L2
/-! ### the cells that data name -/
mutual
theorem Rep.lt {K : Kc} {g : Gh} {n : Nat} {H : Hp} : ∀ {d : D} {v : V}, Rep K g n H d v → cellsLt n d = true
  | .non, _, _ => rfl
  | .bl _, _, _ => rfl
  | .int _, _, _ => rfl
  | .str _, _, _ => rfl
  | .tup _, _, ⟨_, _, _, _, r⟩ => Reps.lt r
  | .lst _, _, ⟨_, _, _, _, r⟩ => Reps.lt r
  | .dic _ _, _, ⟨_, _, _, _, _, r1, r2⟩ => by unfold cellsLt; rw [Reps.lt r1, Reps.lt r2]; rfl
  | .obj _ _, _, ⟨_, _, _, _, r⟩ => Reps.lt r
  | .cell _, _, ⟨h, _⟩ => decide_eq_true h
  | .scr _, _, ⟨_, _, _, _, r⟩ => Reps.lt r
theorem Reps.lt {K : Kc} {g : Gh} {n : Nat} {H : Hp} : ∀ {ds : List D} {vs : List V}, Reps K g n H ds vs → cellsLts n ds = true
  | [], _, _ => rfl
  | _ :: _, _, ⟨_, _, _, h, t⟩ => by unfold cellsLts; rw [Rep.lt h, Reps.lt t]; rfl
end
mutual
theorem Rep.down {K : Kc} {g : Gh} {n n' : Nat} {H : Hp} : ∀ {d : D} {v : V}, Rep K g n H d v → cellsLt n' d = true → Rep K g n' H d v
  | .non, _, h, _ => h
  | .bl _, _, h, _ => h
  | .int _, _, h, _ => h
  | .str _, _, h, _ => h
  | .tup _, _, ⟨a, vs, e, h, r⟩, c => ⟨a, vs, e, h, Reps.down r c⟩
  | .lst _, _, ⟨a, vs, e, h, r⟩, c => ⟨a, vs, e, h, Reps.down r c⟩
  | .dic _ _, _, ⟨a, kk, ws, e, h, r1, r2⟩, c => by
    have c' : cellsLts n' _ = true ∧ cellsLts n' _ = true := Bool.and_eq_true_iff.mp (by unfold cellsLt at c; exact c)
    exact ⟨a, kk, ws, e, h, Reps.down r1 c'.1, Reps.down r2 c'.2⟩
  | .obj _ _, _, ⟨a, vs, e, h, r⟩, c => ⟨a, vs, e, h, Reps.down r c⟩
  | .cell _, _, ⟨_, e⟩, c => ⟨of_decide_eq_true c, e⟩
  | .scr _, _, ⟨a, vs, e, h, r⟩, c => ⟨a, vs, e, h, Reps.down r c⟩
theorem Reps.down {K : Kc} {g : Gh} {n n' : Nat} {H : Hp} : ∀ {ds : List D} {vs : List V}, Reps K g n H ds vs → cellsLts n' ds = true → Reps K g n' H ds vs
  | [], _, h, _ => h
  | _ :: _, _, ⟨v, r, e, h, t⟩, c => by
    have c' : cellsLt n' _ = true ∧ cellsLts n' _ = true := Bool.and_eq_true_iff.mp (by unfold cellsLts at c; exact c)
    exact ⟨v, r, e, Rep.down h c'.1, Reps.down t c'.2⟩
end
def slLt (n : Nat) : Sl → Bool
  | .un => true
  | .shr d => cellsLt n d
  | .own d => cellsLt n d
  | .exc _ ds => cellsLts n ds
def coLt (n : Nat) : CO → Bool
  | .dead => true
  | .lst ds => cellsLts n ds
  | .dic ks vs => cellsLts n ks && cellsLts n vs
  | .obj _ ds => cellsLts n ds
section
variable {K : Kc} {g : Gh} {n n' : Nat} {H : Hp}
theorem SlR.lt : ∀ {x : Sl} {ov : Option V}, SlR K g n H x ov → slLt n x = true
  | .un, _, _ => rfl
  | .shr _, _, ⟨_, _, r⟩ => r.lt
  | .exc _ _, _, ⟨_, _, _, _, _, _, _, _, _, _, _, _, r⟩ => r.lt
  | .own d, _, ⟨_, _, _, r⟩ => by
    cases d with
    | lst ds => obtain ⟨_, _, r⟩ := r; exact r.lt
    | dic ks es => obtain ⟨_, _, _, r1, r2⟩ := r; exact Bool.and_eq_true_iff.mpr ⟨r1.lt, r2.lt⟩
    | _ => exact r.elim
theorem SlR.down : ∀ {x : Sl} {ov : Option V}, SlR K g n H x ov → slLt n' x = true → SlR K g n' H x ov
  | .un, _, _, _ => trivial
  | .shr _, _, ⟨v, e, r⟩, c => ⟨v, e, r.down c⟩
  | .exc _ _, _, ⟨a, oe, dd, vs, e1, e2, e3, e4, e5, e6, e7, e8, r⟩, c => ⟨a, oe, dd, vs, e1, e2, e3, e4, e5, e6, e7, e8, r.down c⟩
  | .own d, _, ⟨a, e, m, r⟩, c => by
    cases d with
    | lst ds => obtain ⟨vs, h, r⟩ := r; exact ⟨a, e, m, vs, h, r.down c⟩
    | dic ks es =>
      obtain ⟨kk, ws, h, r1, r2⟩ := r
      have c' : cellsLts n' ks = true ∧ cellsLts n' es = true := Bool.and_eq_true_iff.mp (by unfold slLt cellsLt at c; exact c)
      exact ⟨a, e, m, kk, ws, h, r1.down c'.1, r2.down c'.2⟩
    | _ => exact r.elim
theorem CeR.lt {a : Addr} : ∀ {c : CO}, CeR K g n H a c → coLt n c = true
  | .dead, _ => rfl
  | .lst _, ⟨_, _, _, r⟩ => r.lt
  | .dic _ _, ⟨_, _, _, _, r1, r2⟩ => Bool.and_eq_true_iff.mpr ⟨r1.lt, r2.lt⟩
  | .obj _ _, ⟨_, _, _, r⟩ => r.lt
theorem CeR.down {a : Addr} : ∀ {c : CO}, CeR K g n H a c → coLt n' c = true → CeR K g n' H a c
  | .dead, h, _ => h
  | .lst _, ⟨m, vs, h, r⟩, c => ⟨m, vs, h, r.down c⟩
  | .dic ks vs, ⟨m, kk, ws, h, r1, r2⟩, c => by
    have c' : cellsLts n' ks = true ∧ cellsLts n' vs = true := Bool.and_eq_true_iff.mp (by unfold coLt at c; exact c)
    exact ⟨m, kk, ws, h, r1.down c'.1, r2.down c'.2⟩
  | .obj _ _, ⟨m, vs, h, r⟩, c => ⟨m, vs, h, r.down c⟩
/-- the last cell goes; what stood there is frozen -/
theorem Abs.uncell {e : List Sl} {h : List CO} {s : L2.St} {c : CO} (A : Abs K g ⟨e, h ++ [c]⟩ s H) (hc : c ≠ .dead) (he : ∀ (i : Nat) (x : Sl), e[i]? = some x → slLt h.length x = true) (hh : ∀ (l : Nat) (o : CO), h[l]? = some o → coLt h.length o = true) : Abs K (g.del (g.io h.length)) ⟨e, h⟩ s H := by
  have lv : Live (h ++ [c]) h.length := ⟨c, by simp, hc⟩
  have k : ∀ n, Kp g n H (g.del (g.io h.length)) n H := fun n => Kp.del
  have up : ∀ (l : Nat) (o : CO), h[l]? = some o → (h ++ [c])[l]? = some o := fun l o q => by rw [List.getElem?_append_left (lt_of_get q)]; exact q
  have lvu : ∀ l, Live h l → Live (h ++ [c]) l ∧ l ≠ h.length := fun l ⟨o, q1, q2⟩ => ⟨⟨o, up l o q1, q2⟩, Nat.ne_of_lt (lt_of_get q1)⟩
  have ne : ∀ l, Live h l → g.io l ≠ g.io h.length := fun l q z => (lvu l q).2 (A.cc l h.length (lvu l q).1 lv z)
  refine ⟨fun a z => ⟨z.1, A.mw a z.2⟩, fun a z => A.wt a z.2, fun i x q => ?_, A.oo, fun i a l q1 q2 => A.oc i a l q1 (lvu l q2).1, fun l o q => ?_, fun l m q1 q2 => A.cc l m (lvu l q1).1 (lvu m q2).1⟩
  · obtain ⟨ov, e1, r⟩ := A.sl i x q
    refine ⟨ov, e1, ?_⟩
    have r2 := r.down (he i x q)
    cases x with
    | un => trivial
    | shr d => obtain ⟨v, e2, r⟩ := r2; exact ⟨v, e2, r.kp (k _)⟩
    | exc c ds => exact r2.kpE (k _)
    | own d =>
      obtain ⟨a, e2, m, r⟩ := r2
      have na : a ≠ g.io h.length := fun z => A.oc i a h.length ⟨⟨d, q⟩, by rw [e1, e2]⟩ lv z.symm
      exact ⟨a, e2, ⟨na, m⟩, r.kp (k _) fun _ z => z⟩
  · have r2 := (A.ce l o (up l o q)).down (hh l o q)
    by_cases hd : o = .dead
    · subst hd; trivial
    · exact CeR.kp (k _) (fun _ z => z) (fun m => ⟨ne l ⟨o, q, hd⟩, m⟩) r2
end
/-! ### fields -/
theorem flds_few (c : Nat) : (fldsOf c).length < 1000 := by
  have h1 : ∀ p ∈ clsTab, p.2.length < 1000 := by decide
  have h2 : ∀ p ∈ excTab, p.2.length < 1000 := by decide
  unfold fldsOf clsE
  split
  · rw [List.getD_eq_getElem?_getD]
    cases e : clsTab[c]? with
    | none => simp
    | some p => exact h1 p (List.mem_of_getElem? e)
  · rw [List.getD_eq_getElem?_getD]
    cases e : excTab[c - 100]? with
    | none => simp
    | some p => exact h2 p (List.mem_of_getElem? e)
theorem putF_get {f : Str} {v : V} : ∀ {ks : List Str} {vs : List V} {i : Nat}, ks.idxOf? f = some i → (i < vs.length → putF f v (ks.zip vs) = ks.zip (vs.set i v)) ∧ (i = vs.length → putF f v (ks.zip vs) = ks.zip (vs ++ [v]))
  | [], _, _, e => by simp at e
  | a :: ks, vs, i, e => by
    rw [List.idxOf?_cons] at e
    by_cases h : a = f
    · subst h
      simp at e
      subst e
      cases vs with
      | nil => exact ⟨fun z => absurd z (Nat.lt_irrefl _), fun _ => by simp [putF]⟩
      | cons b vs => exact ⟨fun _ => by simp [putF], fun z => by simp at z⟩
    · have h1 : (a == f) = false := by simpa using h
      rw [h1] at e
      simp only [Bool.false_eq_true, if_false, Option.map_eq_some_iff] at e
      obtain ⟨j, e3, rfl⟩ := e
      cases vs with
      | nil => exact ⟨fun z => absurd z (Nat.not_lt_zero _), fun z => by simp at z⟩
      | cons b vs =>
        obtain ⟨h2, h3⟩ := putF_get (v := v) (vs := vs) e3
        refine ⟨fun z => ?_, fun z => ?_⟩
        · have z' : j < vs.length := by simpa using z
          simp [putF, h, h2 z']
        · have z' : j = vs.length := by simpa using z
          simp [putF, h, h3 z']
theorem objAt_inv {st : Stt} {i l c : Nat} {fs : List D} (h : objAt st i = some (l, c, fs)) : st.e[i]? = some (.shr (.cell l)) ∧ st.h[l]? = some (.obj c fs) := by
  unfold objAt at h
  split at h
  · split at h
    · cases h; exact ⟨by assumption, by assumption⟩
    · cases h
  · cases h
section
variable {X : Cx} {ER : ExT} {Wx : WX} {C : Calls} {m : Bool}
/-- self.f = e -/
theorem ss_setF {x f : Str} {i : Nat} {e : Expr} {t : Ex} {p p2 pos : Pos} (kt : KitB X.K = true) (hN : X.N[i]? = some x) (hv : Vis X.env.scope x) (hd : (x == ("__debug__" : Str)) = false) (hcd : (x == ("__classdict__" : Str)) = false) (h : SE X ER Wx C e t false) (hs : notComp e = true) :
    SS X ER Wx C m (.Assign [.Attribute (.Name x p) f p2] e pos) (.setF i f t) :=
  psImp (ps_fld (pe_var hN hv hd hcd) h (swaps_of hs _ _ _)) fun D s H ⟨g, st, E, A, w, hn, hr, hb, hc, hx⟩ => by
    simp only [wS] at w
    refine ⟨g, st, _, _, A, w, fun d st1 v g1 H1 ⟨l, c, fs, fs', ho, hp, q⟩ x1 A1 r1 => ?_, fun c fs st' cls dd g' H' q x A' r => hx _ _ _ _ _ _ _ _ q x A' r⟩
    obtain ⟨o1, o2⟩ := objAt_inv ho
    obtain ⟨ov, e1, v', e2, hl, ev⟩ := A1.sl i _ o1
    subst ev
    obtain ⟨ma, vs, ⟨hk, hlen, dx, hH⟩, rv⟩ := A1.ce l _ o2
    obtain ⟨k0, k01, _⟩ := KitB.at kt hk
    unfold putFl at hp
    split at hp
    · rename_i k hix
      have hm := ix_mem hix
      have hkl : k < (fldsOf c).length := by
        have := List.findIdx?_eq_some_iff_getElem.mp (show (fldsOf c).findIdx? (· == f) = some k from hix)
        exact this.1
      refine ⟨.ref (g1.io l), by rw [e1, e2], g1.io l, CL (kz X) c, dx, _, rfl, hH, (clsB_ok k0).1, k01 f hm, ?_, ?_⟩
      · rw [List.length_zip]
        have := flds_few c
        omega
      · have hput : ∃ vs', Reps (kz X) g1 st1.h.length H1 fs' vs' ∧ vs'.length ≤ (fldsOf c).length ∧ putF f v ((fldsOf c).zip vs) = (fldsOf c).zip vs' := by
          have hvl := rv.length
          obtain ⟨q1, q2⟩ := putF_get (v := v) (vs := vs) hix
          split at hp
          · rename_i hlt
            cases hp
            exact ⟨_, rv.set k r1, by rw [List.length_set]; exact hlen, q1 (by omega)⟩
          · split at hp
            · rename_i heq
              cases hp
              refine ⟨_, rv.append ⟨v, [], rfl, r1, rfl⟩, ?_, q2 (by omega)⟩
              rw [List.length_append]
              have : [v].length = 1 := rfl
              omega
            · cases hp
        obtain ⟨vs', rv', hl', ep⟩ := hput
        rw [ep]
        have cn : CeR (kz X) g1 st1.h.length (upd H1 (g1.io l) (.ins (CL (kz X) c) dx ((fldsOf c).zip vs'))) (g1.io l) (.obj c fs') := ⟨ma, vs', ⟨hk, hl', dx, upd_same⟩, rv'.kp (Kp.write (A1.mw _ ma) _)⟩
        obtain ⟨A3, x3⟩ := A1.writeC o2 (by intro z; cases z) (by intro z; cases z) _ cn
        exact hn _ _ _ _ q (x1.trans x3) A3
    · cases hp
end
end Mp
namespace Mp
open PySem PySem.Spec L2
/-! ### == of two lists, some items of which are mutable objects -/
section
variable {K : Kc} {s : L2.St} {H : Hp} {Q : VK}
/-- an item against another one -/
def ItE (K : PySem.W.Frag) (H : Hp) (x y : V) (k : Bool) : Prop := (∃ a, x = .ref a ∧ y = .ref a ∧ k = true) ∨ ∃ d e, Dp K H x d ∧ Dp K H y e ∧ SeqAt.shaped d = true ∧ SeqAt.shaped e = true ∧ k = PyData.eqv d e
def ItEs (K : PySem.W.Frag) (H : Hp) : List V → List V → Bool → Prop
  | [], [], k => k = true
  | x :: xs, y :: ys, k => ∃ a b, ItE K H x y a ∧ ItEs K H xs ys b ∧ k = (a && b)
  | _, _, k => k = false
def rEqL (K : PySem.W.Frag) (neg : Bool) : R2 := fun x y H Q => ∃ a b xs ys k, x = .ref a ∧ y = .ref b ∧ SqL K H a xs ∧ SqL K H b ys ∧ ItEs K H xs ys k ∧ Q (.bl (if neg then !k else k)) H
theorem itE_of {g : Gh} {n : Nat} {a b : D} {x y : V} {k : Bool} (h : itEq a b = some k) (r1 : Rep K g n H a x) (r2 : Rep K g n H b y) : ItE K.K H x y k := by
  unfold itEq at h
  split at h
  · split at h
    · rename_i l m e; subst e
      cases h
      exact .inl ⟨_, r1.2, r2.2, rfl⟩
    · cases h
  · split at h
    · rename_i e
      cases h
      obtain ⟨f1, f2⟩ := Bool.and_eq_true_iff.mp e
      exact .inr ⟨_, _, r1.vw.dp f1, r2.vw.dp f2, flat_shaped f1 (by decide), flat_shaped f2 (by decide), (eqv_eqD f1 f2).symm⟩
    · cases h
theorem itEs_of {g : Gh} {n : Nat} : ∀ {as bs : List D} {xs ys : List V} {k : Bool}, itEqs as bs = some k → Reps K g n H as xs → Reps K g n H bs ys → ItEs K.K H xs ys k
  | [], [], _, _, k, h, r1, r2 => by cases r1; cases r2; cases h; rfl
  | [], _ :: _, _, _, k, h, r1, r2 => by cases r1; obtain ⟨_, _, e, _⟩ := r2; subst e; cases h; rfl
  | _ :: _, [], _, _, k, h, r1, r2 => by cases r2; obtain ⟨_, _, e, _⟩ := r1; subst e; cases h; rfl
  | a :: as, b :: bs, _, _, k, h, ⟨x, xs, e1, r1, t1⟩, ⟨y, ys, e2, r2, t2⟩ => by
    subst e1; subst e2
    unfold itEqs at h
    split at h
    · rename_i p q e3 e4
      cases h
      exact ⟨p, q, itE_of e3 r1 r2, itEs_of e4 t1 t2, rfl⟩
    · cases h
theorem post_eqLW {neg : Bool} {x y : V} {o : Op} (ho : ∀ ds Qd, opW o ds Qd = eqLW neg ds Qd) (h : OpPost K s o false [x, y] H Q) : rEqL K.K neg x y H Q := by
  obtain ⟨g, st, ds, Qd, A, r, w, hq⟩ := h
  rw [ho] at w
  unfold eqLW at w
  split at w
  · obtain ⟨k, e, q⟩ := w
    obtain ⟨a', b', e2, r1, r2⟩ := r.two
    cases e2
    obtain ⟨a, vs, rfl, h1, t1⟩ := r1
    obtain ⟨b, ws, rfl, h2, t2⟩ := r2
    exact ⟨a, b, vs, ws, k, rfl, rfl, .inl (.inl h1), .inl (.inl h2), itEs_of e t1 t2, OpPost.plain A hq q (by cases neg <;> rfl)⟩
  · cases w
end
section
variable {X : Cx} {pins : List (Addr × Obj)} {σ : L2.St} {H : Hp} {s : Shared}
theorem itE_run (I : Inv X pins σ H s) {A : Around} (hu : A.units + 64 < cLine) {x y : V} {v u : Value} {k : Bool} (h : ItE X.K H x y k) (rx : RelV x v) (ry : RelV y u) : SeqAt.EqAt A s v u k := by
  rcases h with ⟨a, rfl, rfl, rfl⟩ | ⟨d, e, hd, he, sd, se, rfl⟩
  · cases (show v = Value.ref a from rx)
    cases (show u = Value.ref a from ry)
    exact SeqAt.EqAt.same _
  · obtain ⟨as, r1⟩ := Dp.reads I d x v hd rx
    obtain ⟨bs, r2⟩ := Dp.reads I e y u he ry
    exact SeqAt.eqAt_reads d e A s v u as bs r1 r2 (SeqAt.canLay_of_shaped sd) (SeqAt.canLay_of_shaped se) (SeqAt.room_of_shaped sd hu)
theorem itEs_run (I : Inv X pins σ H s) {A : Around} (hu : A.units + 64 < cLine) : ∀ {xs ys : List V} {us ws : List Value} {k : Bool}, ItEs X.K H xs ys k → Vals xs us → Vals ys ws →
    (us.length = ws.length ∧ ∃ e : Nat → Bool, (∀ j (h1 : j < us.length) (h2 : j < ws.length), SeqAt.EqAt A s us[j] ws[j] (e j)) ∧ k = (List.range us.length).all e) ∨ (us.length ≠ ws.length ∧ k = false)
  | [], [], _, _, k, h, r1, r2 => by
    cases r1; cases r2; cases h
    exact .inl ⟨rfl, fun _ => true, fun j h1 => by simp at h1, rfl⟩
  | [], _ :: _, _, _, k, h, r1, r2 => by
    cases r1; cases r2; cases h
    exact .inr ⟨by simp, rfl⟩
  | _ :: _, [], _, _, k, h, r1, r2 => by
    cases r1; cases r2; cases h
    exact .inr ⟨by simp, rfl⟩
  | x :: xs, y :: ys, _, _, k, ⟨a, b, h1, h2, e⟩, .cons rx r1, .cons ry r2 => by
    rcases itEs_run I hu h2 r1 r2 with ⟨e1, f, h3, h4⟩ | ⟨e1, e2⟩
    · refine .inl ⟨congrArg Nat.succ e1, fun j => match j with | 0 => a | j + 1 => f j, fun j q1 q2 => ?_, ?_⟩
      · cases j with
        | zero => exact itE_run I hu h1 rx ry
        | succ j => exact h3 j (by simpa using q1) (by simpa using q2)
      · rw [e, h4, List.length_cons, List.range_succ_eq_map, List.all_cons, List.all_map]
        rfl
    · refine .inr ⟨fun z => e1 (by simpa using z), ?_⟩
      rw [e, e2, Bool.and_false]
theorem op_eqL (hu : X.A.units + 65 < cLine) : OpR X (compareOp .Eq) (rEqL X.K false) := by
  intro pins s σ H x y v u Q I rx ry h
  obtain ⟨a, b, xs, ys, k, rfl, rfl, ha, hb, he, q⟩ := h
  cases (show v = Value.ref a from rx)
  cases (show u = Value.ref b from ry)
  obtain ⟨us, r1, p1, _⟩ := I.list ha
  obtain ⟨ws, r2, p2, _⟩ := I.list hb
  rcases itEs_run I (A := X.A.in1) (by show X.A.units + 1 + 64 < cLine; omega) he r1 r2 with ⟨e1, f, h3, h4⟩ | ⟨e1, e2⟩
  · refine SeqAt.RcAt.lists (e := f) p1.isList p2.isList (by simpa using e1) (by omega) (fun j h1 h2 => ?_) X.prog X.w _ _ ⟨.bl _, H, I, ?_, q⟩
    · have z := h3 j (by simpa using h1) (by simpa using h2)
      simpa using z
    · rw [h4, List.size_toArray]
      rfl
  · refine SeqAt.RcAt.lists_lengths p1.isList p2.isList (by simpa using e1) (by omega) X.prog X.w _ _ ⟨.bl _, H, I, ?_, q⟩
    rw [e2]
    rfl
theorem op_neL (hu : X.A.units + 65 < cLine) : OpR X (compareOp .NotEq) (rEqL X.K true) := by
  intro pins s σ H x y v u Q I rx ry h
  obtain ⟨a, b, xs, ys, k, rfl, rfl, ha, hb, he, q⟩ := h
  cases (show v = Value.ref a from rx)
  cases (show u = Value.ref b from ry)
  obtain ⟨us, r1, p1, _⟩ := I.list ha
  obtain ⟨ws, r2, p2, _⟩ := I.list hb
  rcases itEs_run I (A := X.A.in1) (by show X.A.units + 1 + 64 < cLine; omega) he r1 r2 with ⟨e1, f, h3, h4⟩ | ⟨e1, e2⟩
  · refine SeqAt.RcNeAt.lists (e := f) p1.isList p2.isList (by simpa using e1) (by omega) (fun j h1 h2 => ?_) X.prog X.w _ _ ⟨.bl _, H, I, ?_, q⟩
    · have z := h3 j (by simpa using h1) (by simpa using h2)
      simpa using z
    · rw [h4, List.size_toArray]
      rfl
  · refine SeqAt.RcNeAt.lists_lengths p1.isList p2.isList (by simpa using e1) (by omega) X.prog X.w _ _ ⟨.bl _, H, I, ?_, q⟩
    rw [e2]
    rfl
end
end Mp
namespace Mp
open PySem PySem.Spec L2
/-! ### more tests -/
section
variable {X : Cx} {ER : ExT} {Wx : WX} {C : Calls} {m : Bool}
theorem st_isNotN {j : Nat} {p pos : Pos} {a : Expr} {ta : Ex} (ha : SO X ER Wx C a ta) : ST X ER Wx C (.Compare a [.IsNot] [.Constant .none j p] pos) (.tb (.op .isNotN [ta])) :=
  ptImp (pt_cmp (pc_notN ha)) fun s H Q h => rdO_mono (rdE_op1 (rdT_tb h)) fun x H1 h1 => by
    obtain ⟨g, st, ds, Qd, A, r, w, hq⟩ := h1
    obtain ⟨a, rfl, w2⟩ := any1_inv (show any1 ds _ from w)
    obtain ⟨x', e, r1⟩ := r.to1
    cases e
    refine OpPost.plain A hq w2 ?_
    cases a with
    | non => cases (show x = V.non from r1); rfl
    | bl b => cases (show x = V.bl b from r1); rfl
    | int b => cases (show x = V.int b from r1); rfl
    | str b => cases (show x = V.str b from r1); rfl
    | lst b => obtain ⟨_, _, e, _⟩ := r1; cases e; rfl
    | tup b => obtain ⟨_, _, e, _⟩ := r1; cases e; rfl
    | dic b c => obtain ⟨_, _, _, e, _⟩ := r1; cases e; rfl
    | cell l => obtain ⟨_, e⟩ := r1; cases e; rfl
    | scr b => obtain ⟨_, _, e, _⟩ := r1; cases e; rfl
    | obj b c => obtain ⟨_, _, e, _⟩ := r1; cases e; rfl
    | exc b c => exact r1.elim
theorem st_isB {a : Expr} {ta : Ex} {b : Bool} {j : Nat} {p pos : Pos} (ha : SO X ER Wx C a ta) : ST X ER Wx C (.Compare a [.Is] [.Constant (.bool b) j p] pos) (.tb (.op (if b then .isT else .isF) [ta])) :=
  ptImp (pt_cmpR op_isBl ha pe_bl (nomark _)) fun s H Q h => rdO_mono (rdE_op1 (rdT_tb h)) fun x H1 h1 => by
    obtain ⟨g, st, ds, Qd, A, r, w, hq⟩ := h1
    have w' : any1 ds fun a => isBW b false a Qd := by cases b <;> exact w
    obtain ⟨a, rfl, w2⟩ := any1_inv w'
    obtain ⟨x', e, r1⟩ := r.to1
    cases e
    cases a with
    | bl c => exact ⟨c, b, r1, rfl, OpPost.plain A hq w2 rfl⟩
    | _ => exact (show False from w2).elim
theorem st_isNB {a : Expr} {ta : Ex} {b : Bool} {j : Nat} {p pos : Pos} (ha : SO X ER Wx C a ta) : ST X ER Wx C (.Compare a [.IsNot] [.Constant (.bool b) j p] pos) (.tb (.op (if b then .isNT else .isNF) [ta])) :=
  ptImp (pt_cmpR op_notBl ha pe_bl (nomark _)) fun s H Q h => rdO_mono (rdE_op1 (rdT_tb h)) fun x H1 h1 => by
    obtain ⟨g, st, ds, Qd, A, r, w, hq⟩ := h1
    have w' : any1 ds fun a => isBW b true a Qd := by cases b <;> exact w
    obtain ⟨a, rfl, w2⟩ := any1_inv w'
    obtain ⟨x', e, r1⟩ := r.to1
    cases e
    cases a with
    | bl c => exact ⟨c, b, r1, rfl, OpPost.plain A hq w2 rfl⟩
    | _ => exact (show False from w2).elim
theorem st_chn {op op' : CmpOp} {o o' : Op} {r r' : R2} {a b c : Expr} {ta tb tc : Ex} {pos : Pos} (ho : OpR X (compareOp op) r) (ho' : OpR X (compareOp op') r') (hr : ∀ {s H Q x y}, OpPost (kz X) s o false [x, y] H Q → r x y H Q) (hr' : ∀ {s H Q x y}, OpPost (kz X) s o' false [x, y] H Q → r' x y H Q)
    (ha : SE X ER Wx C a ta false) (hb : SE X ER Wx C b tb false) (hc : SE X ER Wx C c tc false) (hm : lastMarks [op, op'] [b, c] = false) : ST X ER Wx C (.Compare a [op, op'] [b, c] pos) (.tb (.chn o o' ta tb tc)) :=
  ptImp (pt_chain ho ho' ha hb hc hm) fun s H Q h => by
    obtain ⟨g, st, Qd, Xd, A, w, hq, hx⟩ := rdT_tb h
    simp only [wE] at w
    refine ⟨g, st, _, Xd, A, w, fun d st1 v g1 H1 w1 x1 A1 r1 => ?_, hx⟩
    refine ⟨g1, st1, _, Xd, A1, w1, fun d2 st2 v2 g2 H2 w2 x2 A2 r2 => @hr s _ _ _ _ ?_, fun c fs st' cls dd g' H' q x A r => hx c fs st' cls dd g' H' q (x1.trans x) A r⟩
    have r1' := Rep.kp (x2.kp A1.mw) r1
    refine ⟨g2, st2, [view st2.h d, view st2.h d2], _, A2, ⟨v, [v2], rfl, A2.view r1', v2, [], rfl, A2.view r2, rfl⟩, w2, fun d3 v3 g3 H3 ⟨k, ek, w3⟩ x3 A3 r3 => ⟨k, ?_, ?_⟩⟩
    · subst ek
      exact r3
    · have x13 := (x1.trans x2).trans x3
      cases k with
      | false => exact hq _ _ _ _ _ w3 x13 A3 rfl
      | true =>
        refine ⟨g3, st2, _, Xd, A3, w3, fun d4 st4 v4 g4 H4 w4 x4 A4 r4 => @hr' s _ _ _ _ ?_, fun c fs st' cls dd g' H' q x A r => hx c fs st' cls dd g' H' q (x13.trans x) A r⟩
        have r2' := Rep.kp (x4.kp A3.mw) (Rep.kp (x3.kp A2.mw) r2)
        exact ⟨g4, st4, [view st4.h d2, view st4.h d4], _, A4, ⟨v2, [v4], rfl, A4.view r2', v4, [], rfl, A4.view r4, rfl⟩, w4, fun d5 v5 g5 H5 w5 x5 A5 r5 => hq _ _ _ _ _ w5 ((x13.trans x4).trans x5) A5 r5⟩

/-! ### tests -/
/-- what is held alone, by nobody yet, is shared from now on -/
theorem Abs.share {K : Kc} {g : Gh} {st : Stt} {s : L2.St} {H : Hp} (A : Abs K g st s H) {a : Addr} {d : D} (m : g.M a) (r : OwR K g st.h.length H a d) (no : ∀ i, ¬ OwnAt st.e s i a) (nc : ∀ l, Live st.h l → g.io l ≠ a) :
    Abs K (g.del a) st s H ∧ Ext g st.h.length H (g.del a) st.h.length H ∧ Rep K (g.del a) st.h.length H d (.ref a) := by
  have k : Kp g st.h.length H (g.del a) st.h.length H := Kp.del
  have rd : Rep K (g.del a) st.h.length H d (.ref a) := by
    cases d with
    | lst ds => obtain ⟨vs, h, q⟩ := r; exact ⟨a, vs, rfl, ⟨h, fun z => z.1 rfl⟩, q.kp k⟩
    | dic ks es => obtain ⟨kk, ws, h, q1, q2⟩ := r; exact ⟨a, kk, ws, rfl, ⟨h, fun z => z.1 rfl⟩, q1.kp k, q2.kp k⟩
    | _ => exact r.elim
  refine ⟨⟨fun b z => ⟨z.1, A.mw b z.2⟩, fun b z => A.wt b z.2, fun j x h => ?_, A.oo, A.oc, fun l o h => ?_, A.cc⟩,
    ⟨fun _ _ h _ => h, fun b o h m' => ⟨fun z => z.2, fun z => ⟨fun e => m' (by rw [e]; exact m), z⟩⟩, fun b o h m' z => m' z.2, fun _ _ => rfl, Nat.le_refl _⟩, rd⟩
  · obtain ⟨ov, f1, q⟩ := A.sl j x h
    refine ⟨ov, f1, ?_⟩
    cases x with
    | un => trivial
    | shr d' => obtain ⟨v, f2, q⟩ := q; exact ⟨v, f2, q.kp k⟩
    | exc c' d' => exact q.kpE k
    | own d' =>
      obtain ⟨b, f2, m', q⟩ := q
      have nb : b ≠ a := fun z => no j ⟨⟨d', h⟩, by rw [f1, f2, z]⟩
      exact ⟨b, f2, ⟨nb, m'⟩, q.kp k fun _ z => z⟩
  · have c := A.ce l o h
    by_cases hd : o = .dead
    · subst hd; trivial
    · have nl : g.io l ≠ a := nc l ⟨o, h, hd⟩
      exact CeR.kp k (fun _ z => z) (fun z => ⟨nl, z⟩) c
theorem SE.share {e : Expr} {t : Ex} (h : SE X ER Wx C e t true) : SE X ER Wx C e t false :=
  peImp h fun s H Q ⟨g, st, Qd, Xd, A, w, hq, hx⟩ => ⟨g, st, Qd, Xd, A, w, fun d st1 v g1 H1 w1 x1 A1 r1 => by
    rcases r1 with ⟨a, rfl, m1, r, no, nc⟩ | ⟨sc, r⟩
    · obtain ⟨A2, x2, r2⟩ := A1.share m1 r no nc
      exact hq _ _ _ _ _ w1 (x1.trans x2) A2 r2
    · exact hq _ _ _ _ _ w1 x1 A1 r, hx⟩
end
end Mp
namespace Mp
open PySem PySem.Spec L2
/-! ### C(..) of an own class -/
/-- an exception's record without a cell that it does not name -/
def ExDn (ER : ExT) : Prop := ∀ g n n' H c fs cls dd a, cellsLts n' fs = true → ER g n H c fs cls dd → ER (g.del a) n' H c fs cls dd
theorem ERx_dn {K : Kc} : ExDn (ERx K) := by
  intro g n n' H c fs cls dd a hl ⟨h1, h2, d, vs, h3, h4, ⟨h5, h6⟩, h7⟩
  exact ⟨h1, h2, d, vs, h3, h4, ⟨h5, fun z => h6 z.2⟩, (h7.kp Kp.del).down hl⟩
theorem Ext.undo {g g' : Gh} {n n' : Nat} {H H' : Hp} {x : Addr} (e : Ext g n H g' n' H') (hx : H x = none) : Ext g n H (g'.del x) n H' where
  keep := e.keep
  stay := fun a o h m => ⟨fun z => (e.stay a o h m).mp z.2, fun z => ⟨fun q => (by rw [q, hx] at h; cases h), (e.stay a o h m).mpr z⟩⟩
  stayM := fun a o h m z => e.stayM a o h m z.2
  io := e.io
  le := Nat.le_refl _
section
variable {X : Cx} {ER : ExT} {Wx : WX} {C : Calls} {m : Bool}
theorem rdE_make {c f np : Nat} {fz : Bool} {ts : List Ex} {ar : List (Sum Nat D)} {s : L2.St} {H : Hp} {Q : VK} {K : Kc} {dv : D → V} (hE : ExOk ER) (hEd : ExDn ER) (hkn : isKnown K.K c = true) (hdv : DvOk K.K dv ar) (har : arOk (ts.length + 1) ar = true) (hnp : ar.length = np) (h : rdE K ER Wx (wE C (.make c fz f ts ar)) false s H Q) :
    rdL K ER Wx ts.length (wL C ts) s H fun vs H1 => ∀ x dx, H1 x = none → H1 dx = none → dx ≠ x → spF K ER C false f np (arrV dv ar (.ref x :: vs)) (upd (upd H1 dx (.own x)) x (.ins (CL K c) dx [])) (fun v H2 => v = .non ∧ Q (.ref x) H2) (WE Wx s) := by
  obtain ⟨g, st, Qd, Xd, A, w, hq, hx⟩ := h
  simp only [wE] at w
  refine ⟨g, st, _, Xd, A, w, fun ds st1 vs g1 H1 w1 x1 A1 r1 hl x dx hx0 hd0 hne => ?_, hx⟩
  have hl' : ds.length = ts.length := by rw [← r1.length]; exact hl
  obtain ⟨A2, x2⟩ := A1.alloc hd0 (.own x)
  have hx1 : upd H1 dx (.own x) x = none := by rw [upd_ne (Ne.symm hne)]; exact hx0
  obtain ⟨A3, x3⟩ := A2.allocO hx1 (.ins (CL K c) dx [])
  have no : ∀ i, ¬ OwnAt st1.e s i x := fun i ⟨⟨d, e1⟩, e2⟩ => by
    obtain ⟨ov, f1, a, f2, ma, _⟩ := A1.sl i _ e1
    rw [e2] at f1
    cases f1
    cases f2
    obtain ⟨o, ho⟩ := A1.wt _ (A1.mw _ ma)
    rw [hx0] at ho
    cases ho
  have nc : ∀ l, Live st1.h l → (g1.add x).io l ≠ x := fun l ⟨o, e1, e2⟩ z => by
    have ma := CeR.m (A1.ce l o e1) e2
    obtain ⟨o, ho⟩ := A1.wt _ (A1.mw _ ma)
    rw [show g1.io l = x from z, hx0] at ho
    cases ho
  obtain ⟨g4, A4, x4, r4, io4, _, _⟩ := A3.cell (a := x) (c := .obj c []) ⟨.inl rfl, [], ⟨hkn, Nat.zero_le _, dx, by rw [upd_same, List.zip_nil_right]⟩, rfl⟩ (by intro z; cases z) no nc
  have xa := (x2.trans x3).trans x4
  have r1' := r1.kp (xa.kp A1.mw)
  have kc : Kp g4 (st1.h ++ [CO.obj c []]).length (upd (upd H1 dx (.own x)) x (.ins (CL K c) dx [])) (g4.callee (st1.h ++ [CO.obj c []])) (st1.h ++ [CO.obj c []]).length (upd (upd H1 dx (.own x)) x (.ins (CL K c) dx [])) := Kp.sameW (fun _ => Iff.rfl) fun _ => rfl
  have ra : Reps K g4 (st1.h ++ [CO.obj c []]).length (upd (upd H1 dx (.own x)) x (.ins (CL K c) dx [])) (.cell st1.h.length :: ds) (.ref x :: vs) := ⟨_, _, rfl, r4, r1'⟩
  have lts : (∀ (i : Nat) (y : Sl), st1.e[i]? = some y → slLt st1.h.length y = true) ∧ ∀ (l : Nat) (o : CO), st1.h[l]? = some o → coLt st1.h.length o = true := ⟨fun i y e => by obtain ⟨ov, _, r⟩ := A1.sl i y e; exact r.lt, fun l o e => (A1.ce l o e).lt⟩
  refine ⟨g4.callee (st1.h ++ [CO.obj c []]), st1.h ++ [CO.obj c []], _, _, _, ?_, A4.callee, (ra.arr hdv (by rw [List.length_cons, hl']; exact har)).kp kc, w1, fun d h' v g' H' q xx A' r => ?_, fun k fs h' cls dd g' H' q xx A' r => ?_⟩
  · show (ar.map _).length = np
    rw [List.length_map, hnp]
  · obtain ⟨A5, x5, _⟩ := A4.back xx A'
    obtain ⟨rfl, q⟩ := q
    refine ⟨r, ?_⟩
    have iox : (g'.back st1.e s).io st1.h.length = x := by rw [x5.io st1.h.length (by simp)]; exact io4
    cases fz with
    | false =>
      refine hq _ _ _ _ _ q (x1.trans (xa.trans x5)) A5 ⟨?_, ?_⟩
      · have := x5.le
        simp at this
        show st1.h.length < h'.length
        omega
      · rw [iox]
    | true =>
      obtain ⟨fs, rfl, hlt, q⟩ := q
      have A6 := A5.uncell (by intro z; cases z) lts.1 lts.2
      rw [iox] at A6
      obtain ⟨_, vs', ob, rv⟩ := A5.ce st1.h.length (.obj c fs) (by simp)
      rw [iox] at ob
      exact hq _ _ _ _ _ q (x1.trans ((xa.trans x5).undo hx0)) A6 ⟨x, vs', rfl, ⟨ob, fun z => z.1 rfl⟩, (rv.kp Kp.del).down hlt⟩
  · obtain ⟨A5, x5, _⟩ := A4.back xx A'
    have iox : (g'.back st1.e s).io st1.h.length = x := by rw [x5.io st1.h.length (by simp)]; exact io4
    have r' := hE g' (g'.back st1.e s) _ _ _ _ _ _ (fun _ => Iff.rfl) (fun _ => rfl) r
    cases fz with
    | false => exact hx _ _ _ _ _ _ _ q (x1.trans (xa.trans x5)) A5 r'
    | true =>
      obtain ⟨⟨gs, rfl⟩, hlt, q⟩ := q
      have A6 := A5.uncell (by intro z; cases z) lts.1 lts.2
      rw [iox] at A6
      exact hx _ _ _ _ _ _ _ q (x1.trans ((xa.trans x5).undo hx0)) A6 (hEd _ _ _ _ _ _ _ _ x hlt r')
theorem run_mk {CX : CXT} {k n : Nat} {Cl f : Addr} {fd : FuncData} {ps ks : List Str} {sp : Sp} {E : XK} {gg : List Value → List Value → List Value} {gV : List V → List V → List V} {pins : List (Addr × Obj)} {σ : L2.St} {H : Hp} {s : Shared} {Q : VK} {us ws : List Value} {vs zs : List V}
    (M : Mk X.K Cl f) (F : FnG X.prog X.w X.K X.mg X.base CX k f fd ps sp) (hr : RoomG (k + 1) X.A) (hb : KBn X.K fd ps (n + 1) ks gg gV) (hx : PassesAt CX X σ E) (I : Inv X pins σ H s) (r : Vals vs us) (rz : Vals zs ws) (l1 : vs.length = n) (l2 : zs.length = ks.length)
    (h : ∀ x dx, H x = none → H dx = none → dx ≠ x → sp (gV (.ref x :: vs) zs) (upd (upd H dx (.own x)) x (.ins Cl dx [])) (fun v H2 => v = .non ∧ Q (.ref x) H2) E) :
    wpAny (model X.prog X.w) X.A (call (.ref Cl) us (ks.zip ws)) (EP X pins σ Q) X.xe s := by
  have hq := h (s.heap.objs.size + 1) s.heap.objs.size (I.hok.fresh (Nat.le_succ _)) (I.hok.fresh (Nat.le_refl _)) (Nat.ne_of_lt (Nat.lt_succ_self _))
  have I2 := Inv.made (C := Cl) I
  have r1 : Vals (V.ref (s.heap.objs.size + 1) :: vs) (Value.ref (s.heap.objs.size + 1) :: us) := .cons rfl r
  have r2 := hb.rel r1 rz
  have e1 : (Value.ref (s.heap.objs.size + 1) :: us).length = n + 1 := r1.length.symm.trans (congrArg Nat.succ l1)
  have e2 : ws.length = ks.length := rz.length.symm.trans l2
  refine wpAny_call (make_map (f := f) I.kIn M.makes M.init (beq_iff_eq.mp M.fn) (codeAny_mono (F.run _ X.stack _ _ ⟨Value.ref (s.heap.objs.size + 1) :: us, ks.zip ws⟩ (gg (Value.ref (s.heap.objs.size + 1) :: us) ws) _ _ E (hr.make Cl us (ks.zip ws))
    (I2.env0.make Cl us (ks.zip ws)) (hb.to _ (Value.ref (s.heap.objs.size + 1) :: us) ws I2.kIn e1 e2) r2 hq) fun r s' hq' => ?_))
  cases r with
  | error e => exact hx pins _ _ e s' I2 hq'
  | ok fl =>
    cases fl with
    | ret u =>
      obtain ⟨v, H', I3, rv, ev, q3⟩ := I2.after hq'
      subst ev
      exact ⟨rv, ⟨V.ref (s.heap.objs.size + 1), H', I3, rfl, q3⟩⟩
    | next => exact False.elim hq'
    | brk => exact False.elim hq'
    | cont => exact False.elim hq'
/-- C(.., k = v, ..) -/
theorem se_make {k np c : Nat} {fz : Bool} {fx : Addr} {fd : FuncData} {ps ks : List Str} {f : Nat} {x : Str} {p pos : Pos} {es : List Expr} {kws : List Keyword} {ts us : List Ex} {ar : List (Sum Nat D)}
    (hcalm : X.calm = true) (hkn : isKnown X.K c = true) (M : Mk X.K (He.ga X.K (clsN c)) fx) (F : FnG X.prog X.w X.K X.mg X.base (L2.CX X.prog X.w) k fx fd ps (spF ⟨X.K, none⟩ ER C false f np)) (hr : RoomG (k + 1) X.A) (hg : Gl X x) (hm : X.mg x = some (.ref (He.ga X.K (clsN c)))) (hd : (x == ("__debug__" : Str)) = false)
    (hs : Shp X.K fd ps (es.length + 1) ks ar) (hks : kws.filterMap (·.arg) = ks) (hkl : kws.length = ks.length) (tk : Takes X Wx) (hE : ExOk ER) (hEd : ExDn ER) (har : arOk ((ts ++ us).length + 1) ar = true) (hnp : ar.length = np) (hl1 : ts.length = es.length) (hl2 : us.length = kws.length)
    (ha : SL X ER Wx C es ts) (hkw : SK X ER Wx C kws us) (hst : es.all notStar = true) (hka : kws.all (·.arg.isSome) = true) : SE X ER Wx C (.Call (.Name x p) es kws pos) (.make c fz f (ts ++ us) ar) false := by
  have ek : (⟨X.K, none⟩ : Kc) = kz X := by unfold kz; rw [hcalm]; rfl
  rw [ek] at F
  obtain ⟨gg, gV, dv, hb, hdv, hgV⟩ := hs.ex
  refine ⟨fun pins s σ H Q I h => ?_⟩
  have h1 := splitL_append (rdE_make (dv := dv) hE hEd hkn hdv har hnp h)
  refine wpAny_Call_Name_kw (ld_glob I hg hm ?_ hd)
  obtain ⟨ka, kn⟩ := kw_all hka pos X.env
  have fin : ∀ {vs : List V} {vals : List Value} {s2 : Shared} {H2 : Hp}, Inv X pins σ H2 s2 → Vals vs vals →
      rdL (kz X) ER Wx us.length (wL C us) σ H2 (fun zs H3 => vs.length = ts.length ∧ zs.length = us.length ∧ ∀ x dx, H3 x = none → H3 dx = none → dx ≠ x → spF (kz X) ER C false f np (arrV dv ar (.ref x :: (vs ++ zs))) (upd (upd H3 dx (.own x)) x (.ins (CL (kz X) c) dx [])) (fun v H2 => v = .non ∧ Q (.ref x) H2) (WE Wx σ)) →
      wpAny (model X.prog X.w) X.A (evalAll ((backToKw pos (keywordEach kws X.env)).map (·.2))) (fun ws s3 => X.K.In s3.heap ∧ wpAny (model X.prog X.w) X.A (call (.ref (He.ga X.K (clsN c))) ([] ++ vals) (((backToKw pos (keywordEach kws X.env)).filterMap (·.1)).zip ws)) (EP X pins σ Q) X.xe s3) X.xe s2 := by
    intro vs vals s2 H2 I2 r2 q2
    refine thn (hkw.run pos pins s2 σ H2 _ I2 q2) fun ws s3 ⟨zs, H3, I3, rz, lv, lz, q3⟩ => ⟨I3.kIn, ?_⟩
    rw [kw_names, hks, List.nil_append]
    have lv' : vs.length = es.length := by rw [lv, hl1]
    have lz' : zs.length = ks.length := by rw [lz, hl2, hkl]
    refine run_mk M F hr hb (passAt tk σ) I3 r2 rz lv' lz' fun x dx e1 e2 e3 => ?_
    rw [hgV (.ref x :: vs) zs (by rw [List.length_cons, lv']) lz']
    exact q3 x dx e1 e2 e3
  cases es with
  | nil =>
    cases ts with
    | cons _ _ => cases hl1
    | nil => exact PySem.W.callWith_KW0 (first := []) (h₀ := X.base) I.ok.mod.kin M.kp ka (fin I .nil (splitL_nil h1)) (by rw [kn]; rfl)
  | cons e es =>
    have h' : notStar e = true ∧ es.all notStar = true := by simpa only [List.all_cons, Bool.and_eq_true] using hst
    exact PySem.W.callWith_KW (first := []) (h₀ := X.base) I.ok.mod.kin M.kp ka (thn (ha.run pos pins s σ H _ I h1) fun vals s2 ⟨vs, H2, I2, r2, q2⟩ => fin I2 r2 q2) (by rw [kn, star_any hst]; rfl) (star_of h'.1 _ _)
end
end Mp
namespace Mp
open PySem PySem.Spec L2
/-! ### methods of own classes -/
/-- what a method's answer becomes -/
def methV : MK → V → Hp → VK → Prop
  | .dot, v, H, Q => Q v H
  | .prop, v, H, Q => Q v H
  | .len, v, H, Q => ∃ n, v = .int n ∧ (0 ≤ n ∧ n < 2 ^ 62) ∧ Q v H
  | .in_, v, H, Q => ∃ b, v = .bl b ∧ Q (.bl b) H
  | .notIn, v, H, Q => ∃ b, v = .bl b ∧ Q (.bl (!b)) H
  | .neg, v, H, Q => Q v H
  | .eq, v, H, Q => ∃ b, v = .bl b ∧ Q (.bl b) H
  | .ne, v, H, Q => ∃ b, v = .bl b ∧ Q (.bl (!b)) H
  | .str, v, H, Q => ∃ x, v = .str x ∧ Q v H
theorem obj_of {K : Kc} {g : Gh} {n : Nat} {H : Hp} {c : Nat} {d : D} {v : V} (h : isObj c d = true) (r : Vw K g n H d v) : ∃ a vs, v = .ref a ∧ ObR K H a c vs := by
  cases d with
  | obj k ds =>
    have e : k = c := by simpa [isObj] using h
    subst e
    obtain ⟨a, vs, e, ob, _⟩ := r
    exact ⟨a, vs, e, ob⟩
  | _ => cases h
section
variable {X : Cx} {ER : ExT} {Wx : WX} {C : Calls} {m : Bool}
theorem rdE_meth {k : MK} {c f np : Nat} {r : Ex} {ts : List Ex} {ar : List (Sum Nat D)} {s : L2.St} {H : Hp} {Q : VK} {K : Kc} {dv : D → V} (hE : ExOk ER) (hdv : DvOk K.K dv ar) (har : arOk (ts.length + 1) ar = true) (hnp : ar.length = np) (h : rdE K ER Wx (wE C (.meth k c f (r :: ts) ar)) false s H Q) :
    rdE K ER Wx (wE C r) false s H fun x H1 => (isIn k = false → ∃ a vs, x = .ref a ∧ ObR K H1 a c vs) ∧ rdL K ER Wx ts.length (wL C ts) s H1 fun vs H2 => (isIn k = true → ∃ a ws, vs.getD 0 .non = .ref a ∧ ObR K H2 a c ws) ∧ (isEqM k = true → (∃ a ws, x = .ref a ∧ ObR K H2 a c ws) ∧ ∃ (g' : Gh) (n' : Nat) (d' : D), eqR c d' = true ∧ Vw K g' n' H2 d' (vs.getD 0 .non)) ∧
      vs.length = ts.length ∧ spF K ER C false f np (arrV dv ar (x :: vs)) H2 (fun v H3 => methV k v H3 Q) (fun cls dd H => isProp k = false ∧ WE Wx s cls dd H) := by
  obtain ⟨g, st, Qd, Xd, A, w, hq, hx⟩ := h
  simp only [wE] at w
  refine ⟨g, st, _, Xd, A, w, fun d st1 v g1 H1 ⟨w0, w1⟩ x1 A1 r1 => ⟨fun z => obj_of (w0 z) (A1.view r1), ?_⟩, hx⟩
  refine ⟨g1, st1, _, Xd, A1, w1, fun ds st2 vs g2 H2 ⟨w2, wq, w3⟩ x2 A2 r2 hl => ⟨fun z => ?_, fun z => ?_, hl, ?_⟩, fun c fs st' cls dd g' H' q x A' r' => hx _ _ _ _ _ _ _ q (x1.trans x) A' r'⟩
  · have w2 := w2 z
    cases ds with
    | nil => cases w2
    | cons d0 ds =>
      obtain ⟨v0, rs, e0, r0, _⟩ := r2
      subst e0
      exact obj_of w2 (A2.view r0)
  · obtain ⟨wa, wb⟩ := wq z
    refine ⟨obj_of wa (A2.view (Rep.kp (x2.kp A1.mw) r1)), ?_⟩
    cases ds with
    | nil =>
      obtain rfl : vs = [] := r2
      exact ⟨g2, 0, .non, rfl, rfl⟩
    | cons d0 ds =>
      obtain ⟨v0, rs, e0, r0, _⟩ := r2
      subst e0
      exact ⟨_, _, _, wb, A2.view r0⟩
  · have hl' : ds.length = ts.length := by rw [← r2.length]; exact hl
    have kc : Kp g2 st2.h.length H2 (g2.callee st2.h) st2.h.length H2 := Kp.sameW (fun _ => Iff.rfl) fun _ => rfl
    have ra : Reps K g2 st2.h.length H2 (d :: ds) (v :: vs) := ⟨_, _, rfl, Rep.kp (x2.kp A1.mw) r1, r2⟩
    refine ⟨g2.callee st2.h, st2.h, _, _, _, ?_, A2.callee, (ra.arr hdv (by rw [List.length_cons, hl']; exact har)).kp kc, w3, fun d' h' v' g' H' q x A' r' => ?_, fun c fs h' cls dd g' H' q x A' r' => ?_⟩
    · show (ar.map _).length = np
      rw [List.length_map, hnp]
    · obtain ⟨A3, x3, _⟩ := A2.back x A'
      have k2 : Kp g' h'.length H' (g'.back st2.e s) h'.length H' := Kp.sameW (fun _ => Iff.rfl) fun _ => rfl
      have rr : Rep K (g'.back st2.e s) h'.length H' d' v' := Rep.kp k2 r'
      have fin := fun (e : D) (u : V) (qq : Qd e ⟨st2.e, h'⟩) (ru : Rep K (g'.back st2.e s) h'.length H' e u) => hq e ⟨st2.e, h'⟩ u _ H' qq ((x1.trans x2).trans x3) A3 ru
      cases k with
      | dot => exact fin _ _ q rr
      | prop => exact fin _ _ q rr
      | neg => exact fin _ _ q rr
      | len =>
        obtain ⟨n, rfl, hn, q⟩ := q
        exact ⟨n, rr, hn, fin _ _ q rr⟩
      | in_ =>
        obtain ⟨b, rfl, q⟩ := q
        exact ⟨b, rr, fin _ _ q rfl⟩
      | notIn =>
        obtain ⟨b, rfl, q⟩ := q
        exact ⟨b, rr, fin _ _ q rfl⟩
      | eq =>
        obtain ⟨b, rfl, q⟩ := q
        exact ⟨b, rr, fin _ _ q rfl⟩
      | ne =>
        obtain ⟨b, rfl, q⟩ := q
        exact ⟨b, rr, fin _ _ q rfl⟩
      | str =>
        obtain ⟨y, rfl, q⟩ := q
        exact ⟨y, rr, fin _ _ q rr⟩
    · obtain ⟨A3, x3, _⟩ := A2.back x A'
      exact ⟨q.1, hx _ _ _ _ _ _ _ q.2 ((x1.trans x2).trans x3) A3 (hE g' (g'.back st2.e s) _ _ _ _ _ _ (fun _ => Iff.rfl) (fun _ => rfl) r')⟩
theorem spF_E {K : Kc} {m : Bool} {f np : Nat} {vs : List V} {H : Hp} {Q : VK} {E E' : XK} (i : ∀ c d H, E c d H → E' c d H) (h : spF K ER C m f np vs H Q E) : spF K ER C m f np vs H Q E' := by
  obtain ⟨g, hh, ds, Qd, Xd, h1, h2, h3, h4, h5, h6⟩ := h
  exact ⟨g, hh, ds, Qd, Xd, h1, h2, h3, h4, h5, fun c fs h' cls dd g' H' q x A' r => i _ _ _ (h6 c fs h' cls dd g' H' q x A' r)⟩
theorem mcall_eqK {o : Expr} {m : Str} {apos pos : Pos} {args : List Expr} {kws : List Keyword} {env : Env} (hf : methodCallForm (args.length + kws.length) (backTo pos (starEach args env)) (backToKw pos (keywordEach kws env)) = true) (hl : (apos.endLine == pos.line) = true) (hb : baseOk o = true) :
    eval (.Call (.Attribute o m apos) args kws pos) env = (do
      let ov ← eval o env
      standAt apos.atName
      let (f, first) ← holding [ov] (getMethod ov m (do return (← importBound o env).getD true))
      callWith pos f first (backTo pos (starEach args env)) (backToKw pos (keywordEach kws env))) := by
  rw [arm_eval_Call]
  show (do let ov ← attributeBase o m env (eval o env); _) = _
  rw [base_of hb]
  congr 1
  funext ov
  congr 1
  funext _
  show methodCall o m apos pos env ov (args.length + kws.length) (backTo pos (starEach args env)) (backToKw pos (keywordEach kws env)) = _
  unfold methodCall calleeOf methodCallPos
  rw [hf, hl]
  rfl
theorem form_of {args : List Expr} {kws : List Keyword} (h : args.all notStar = true) (hk : kws.all (·.arg.isSome) = true) (h2 : args.length + kws.length < 29) (pos : Pos) (env : Env) : methodCallForm (args.length + kws.length) (backTo pos (starEach args env)) (backToKw pos (keywordEach kws env)) = true := by
  unfold methodCallForm
  have e1 : (backTo pos (starEach args env)).all (fun x => !x.1) = true := by
    have := star_any h pos env
    rw [List.any_eq_false] at this
    rw [List.all_eq_true]
    intro x hx
    simpa using this x hx
  rw [e1, (kw_all hk pos env).1]
  simp
  split <;> omega
theorem zip_none {fs : List Str} {m : Str} (h : m ∉ fs) : ∀ vs : List V, (fs.zip vs).lookup m = none := by
  induction fs with
  | nil => intro vs; rfl
  | cons f fs ih =>
    intro vs
    cases vs with
    | nil => rfl
    | cons v vs =>
      have h1 : (m == f) = false := by simpa using fun z => h (by simp [z])
      rw [List.zip_cons_cons, List.lookup_cons, h1]
      exact ih (fun z => h (by simp [z])) vs
/-- o.m(.., k = v, ..) -/
theorem se_dot {k np c : Nat} {fx : Addr} {fd : FuncData} {ps ks : List Str} {f : Nat} {mt : Str} {o : Expr} {apos pos : Pos} {es : List Expr} {kws : List Keyword} {r : Ex} {ts us : List Ex} {ar : List (Sum Nat D)}
    (hcalm : X.calm = true) (kit : KitB X.K = true) (hkn : isKnown X.K c = true) (hM : Meth X.K (He.ga X.K (clsN c)) mt fx) (hmf : mt ∉ fldsOf c) (F : FnG X.prog X.w X.K X.mg X.base (L2.CX X.prog X.w) k fx fd ps (spF ⟨X.K, none⟩ ER C false f np)) (hr : RoomG k X.A)
    (hs : Shp X.K fd ps (es.length + 1) ks ar) (hks : kws.filterMap (·.arg) = ks) (hkl : kws.length = ks.length) (tk : Takes X Wx) (hE : ExOk ER) (har : arOk ((ts ++ us).length + 1) ar = true) (hnp : ar.length = np) (hl1 : ts.length = es.length) (hl2 : us.length = kws.length)
    (ho : SE X ER Wx C o r false) (ha : SL X ER Wx C es ts) (hkw : SK X ER Wx C kws us) (hst : es.all notStar = true) (hka : kws.all (·.arg.isSome) = true) (hb : baseOk o = true) (hl : (apos.endLine == pos.line) = true) (hfew : es.length + kws.length < 29) :
    SE X ER Wx C (.Call (.Attribute o mt apos) es kws pos) (.meth .dot c f (r :: (ts ++ us)) ar) false := by
  have ek : (⟨X.K, none⟩ : Kc) = kz X := by unfold kz; rw [hcalm]; rfl
  rw [ek] at F
  obtain ⟨gg, gV, dv, hbn, hdv, hgV⟩ := hs.ex
  obtain ⟨k0, k1, _⟩ := KitB.at kit hkn
  obtain ⟨cl, _⟩ := clsB_ok k0
  refine ⟨fun pins s σ H Q I h => ?_⟩
  have h1 := rdE_meth (dv := dv) hE hdv har hnp h
  obtain ⟨ka, kn⟩ := kw_all hka pos X.env
  refine PySem.W.methodCall_KW (pl := (do return (← importBound o X.env).getD true)) (thn (ho.run pins s σ H _ I h1) fun u s1 ⟨x, H1, I1, rx, q0, q1⟩ => ?_) (mcall_eqK (form_of hst hka hfew pos X.env) hl hb)
  obtain ⟨a, vs0, rfl, _, _, dx, ea⟩ := q0 rfl
  obtain rfl : u = Value.ref a := rx
  refine getmeth_ok I1 ea cl hM (zip_none hmf _) ?_
  have h2 := splitL_append q1
  have fin : ∀ {vs : List V} {vals : List Value} {s2 : Shared} {H2 : Hp}, Inv X pins σ H2 s2 → Vals vs vals →
      rdL (kz X) ER Wx us.length (wL C us) σ H2 (fun zs H3 => vs.length = ts.length ∧ zs.length = us.length ∧ (isIn .dot = true → ∃ a ws, (vs ++ zs).getD 0 .non = .ref a ∧ ObR (kz X) H3 a c ws) ∧ (isEqM .dot = true → (∃ b ws, V.ref a = .ref b ∧ ObR (kz X) H3 b c ws) ∧ ∃ (g' : Gh) (n' : Nat) (d' : D), eqR c d' = true ∧ Vw (kz X) g' n' H3 d' ((vs ++ zs).getD 0 .non)) ∧ (vs ++ zs).length = (ts ++ us).length ∧ spF (kz X) ER C false f np (arrV dv ar (.ref a :: (vs ++ zs))) H3 (fun v H3 => methV .dot v H3 Q) (fun cls dd H => isProp .dot = false ∧ WE Wx σ cls dd H)) →
      wpAny (model X.prog X.w) X.A (evalAll ((backToKw pos (keywordEach kws X.env)).map (·.2))) (fun ws s3 => X.K.In s3.heap ∧ wpAny (model X.prog X.w) X.A (call (.ref fx) ([.ref a] ++ vals) (((backToKw pos (keywordEach kws X.env)).filterMap (·.1)).zip ws)) (EP X pins σ Q) X.xe s3) X.xe s2 := by
    intro vs vals s2 H2 I2 r2 q2
    refine thn (hkw.run pos pins s2 σ H2 _ I2 q2) fun ws s3 ⟨zs, H3, I3, rz, lv, lz, _, _, _, q3⟩ => ⟨I3.kIn, ?_⟩
    rw [kw_names, hks]
    have lv' : vs.length = es.length := by rw [lv, hl1]
    have lz' : zs.length = ks.length := by rw [lz, hl2, hkl]
    have r3 : Vals (V.ref a :: vs) (Value.ref a :: vals) := .cons rfl r2
    refine run_call F hr hbn (passAt tk σ) I3 r3 rz (by rw [List.length_cons, lv']) lz' ?_
    rw [hgV (.ref a :: vs) zs (by rw [List.length_cons, lv']) lz']
    exact spF_E (fun _ _ _ z => z.2) q3
  cases es with
  | nil =>
    cases ts with
    | cons _ _ => cases hl1
    | nil => exact PySem.W.callWith_KW0 (first := [.ref a]) (h₀ := X.base) I.ok.mod.kin hM.kp ka (fin I1 .nil (splitL_nil h2)) (by rw [kn]; rfl)
  | cons e es =>
    have h' : notStar e = true ∧ es.all notStar = true := by simpa only [List.all_cons, Bool.and_eq_true] using hst
    exact PySem.W.callWith_KW (first := [.ref a]) (h₀ := X.base) I.ok.mod.kin hM.kp ka (thn (ha.run pos pins s1 σ H1 _ I1 h2) fun vals s2 ⟨vs, H2, I2, r2, q2⟩ => fin I2 r2 q2) (by rw [kn, star_any hst]; rfl) (star_of h'.1 _ _)
end
end Mp
namespace Mp
open PySem PySem.Spec L2
/-! ### len(o), x in o, -o of own classes -/
section
variable {X : Cx} {ER : ExT} {Wx : WX} {C : Calls} {m : Bool}
/-- a call one level in -/
theorem run_call1 {CX : CXT} {k n : Nat} {f : Addr} {fd : FuncData} {ps ks : List Str} {sp : Sp} {E : XK} {gg : List Value → List Value → List Value} {gV : List V → List V → List V} {pins : List (Addr × Obj)} {σ : L2.St} {H : Hp} {s : Shared} {Q : VK} {us ws : List Value} {vs zs : List V}
    (F : FnG X.prog X.w X.K X.mg X.base CX k f fd ps sp) (hr : RoomG (k + 1) X.A) (hb : KBn X.K fd ps n ks gg gV) (hx : PassesAt CX X σ E)
    (I : Inv X pins σ H s) (rv : Vals vs us) (rz : Vals zs ws) (lv : vs.length = n) (lz : zs.length = ks.length) (hsp : sp (gV vs zs) H Q E) : wpAny (model X.prog X.w) X.A.in1 (call (.ref f) us (ks.zip ws)) (EP X pins σ Q) X.xe s := by
  have run := F.run X.A.in1 X.stack s H ⟨us, ks.zip ws⟩ (gg us ws) (gV vs zs) Q E hr.in1 I.env0.in1 (hb.to s us ws I.kIn (rv.length.symm.trans lv) (rz.length.symm.trans lz)) (hb.rel rv rz) hsp
  refine wpAny_call (codeAny_mono run fun res s' back => ?_)
  match res, back with
  | .error e, back => exact hx pins H s e s' I back
  | .ok (.ret u), back => exact I.after back
/-- the method's own name in the class -/
structure Dun (K : PySem.W.Frag) (c : Nat) (nm : Str) (f : Addr) : Prop where
  at_ : PySem.W.findIn K (.ref (He.ga K (clsN c))) nm = some (some (.ref f))
  fn : PySem.W.isFn K (.ref f) = true
theorem inst_of {pins : List (Addr × Obj)} {σ : L2.St} {H : Hp} {s : Shared} {a dx Cl : Addr} {fs : List (Str × V)} (I : Inv X pins σ H s) (e : H a = some (.ins Cl dx fs)) : ∃ od, PySem.W.InstAt s.heap a (PySem.W.instObj Cl dx) Cl (some od) := by
  obtain ⟨mA, O, _⟩ := ins_get I.hok e
  obtain ⟨od, J, _⟩ := O.look
  exact ⟨od, J⟩
/-- a comparison, as a value and as a test -/
theorem cmp_both {op : CmpOp} {a b : Expr} {pos : Pos} {ta tb t : TE} {R : L2.St → VK → V → V → Hp → Prop} (core : ∀ pins σ v u s2 x y H2 Q, Inv X pins σ H2 s2 → RelV x v → RelV y u → R σ Q x y H2 → wpAny (model X.prog X.w) X.A (compareOp op v u) (EP X pins σ Q) X.xe s2)
    (ha : PE X a ta) (hb : PE X b tb) (hm : behindInMarks op b = false) (hi : ∀ σ H Q, t σ H Q → ta σ H fun x H1 => tb σ H1 fun y H2 => R σ Q x y H2) :
    PE X (.Compare a [op] [b] pos) t ∧ PT X (.Compare a [op] [b] pos) (fun σ H Q => t σ H fun v H' => ∃ k, v = .bl k ∧ Q k H') := by
  refine ⟨⟨fun pins s σ H Q I h => wpAny_Compare1 (binT ha hb I (hi σ H Q h) fun v u s2 x y H2 I2 rx ry q => core pins σ v u s2 x y H2 Q I2 rx ry q) hm⟩, ⟨fun pins s σ H Q I h => ?_⟩⟩
  refine wpAny_isTrue_Compare1 (thn (ha.run pins s σ H _ I (hi σ H _ h)) fun v s1 ⟨x, H1, I1, r1, q1⟩ => thn (hb.run pins s1 σ H1 _ I1 q1) fun u s2 ⟨y, H2, I2, r2, q2⟩ => thn (core pins σ v u s2 x y H2 _ I2 r1 r2 q2) fun c s3 ⟨z, H3, I3, r3, k, e, q3⟩ => ?_) hm
  subst e
  cases r3
  exact wpAny_truthy_bool ⟨H3, I3, q3⟩
theorem both_se {e : Expr} {t : Ex} (h : PE X e (rdE (kz X) ER Wx (wE C t) false) ∧ PT X e (fun σ H Q => rdE (kz X) ER Wx (wE C t) false σ H fun v H' => ∃ k, v = .bl k ∧ Q k H')) : SE X ER Wx C e t false ∧ ST X ER Wx C e (.tb t) := ⟨h.1, ptImp h.2 fun s H Q z => rdT_tb z⟩
section
variable {k np c f : Nat} {fx : Addr} {fd : FuncData} {ps : List Str} {r r2 : Ex} {o e : Expr} {pos p : Pos}
/-- -o -/
theorem se_negO (hcalm : X.calm = true) (hD : Dun X.K c "__neg__" fx) (F : FnG X.prog X.w X.K X.mg X.base (L2.CX X.prog X.w) k fx fd ps (spF ⟨X.K, none⟩ ER C false f np)) (hr : RoomG k X.A) (hs : Shp X.K fd ps 1 [] [.inl 0]) (hnp : np = 1) (tk : Takes X Wx) (hE : ExOk ER) (ho : SE X ER Wx C o r false) :
    SE X ER Wx C (.UnaryOp .USub o pos) (.meth .neg c f [r] [.inl 0]) false := by
  rw [show (⟨X.K, none⟩ : Kc) = kz X by rw [kz_calm hcalm]] at F
  obtain ⟨gg, gV, dv, hbn, hdv, hgV⟩ := hs.ex
  refine ⟨fun pins s σ H Q I h => ?_⟩
  have h1 := rdE_meth (ar := [.inl 0]) (ts := []) (np := np) (dv := dv) hE hdv rfl hnp.symm h
  refine PyProof.Rows.UnaryOp_ (thn (ho.run pins s σ H _ I h1) fun u s1 ⟨x, H1, I1, rx, q0, q1⟩ => ?_)
  obtain ⟨a, vs0, rfl, _, _, dx, ea⟩ := q0 rfl
  obtain rfl : u = Value.ref a := rx
  obtain ⟨od, J⟩ := inst_of I1 ea
  obtain ⟨_, _, _, q2⟩ := splitL_nil q1
  obtain ⟨mm, fr⟩ := I1.fr
  refine PySem.W.ksp_neg fr I1.ok.mod.kin J hD.at_ hD.fn ?_
  refine run_call (ks := []) (zs := []) (ws := []) (vs := [.ref a]) F hr hbn (passAt tk σ) I1 (.cons rfl .nil) .nil rfl rfl ?_
  rw [hgV [.ref a] [] rfl rfl]
  exact spF_E (fun _ _ _ z => z.2) q2
/-- e in o, e not in o -/
theorem se_inO (neg : Bool) (hcalm : X.calm = true) (hD : Dun X.K c "__contains__" fx) (F : FnG X.prog X.w X.K X.mg X.base (L2.CX X.prog X.w) k fx fd ps (spF ⟨X.K, none⟩ ER C false f np)) (hr : RoomG k X.A) (hs : Shp X.K fd ps 2 [] [.inl 0, .inl 1]) (hnp : np = 2) (tk : Takes X Wx) (hE : ExOk ER)
    (he : SE X ER Wx C e r false) (ho : SE X ER Wx C o r2 false) (hst : notStar o = true) (hm : behindInMarks (if neg then .NotIn else .In) o = false) :
    SE X ER Wx C (.Compare e [if neg then .NotIn else .In] [o] pos) (.meth (if neg then .notIn else .in_) c f [r, r2] [.inl 1, .inl 0]) false ∧ ST X ER Wx C (.Compare e [if neg then .NotIn else .In] [o] pos) (.tb (.meth (if neg then .notIn else .in_) c f [r, r2] [.inl 1, .inl 0])) := by
  rw [show (⟨X.K, none⟩ : Kc) = kz X by rw [kz_calm hcalm]] at F
  obtain ⟨gg, gV, dv, hbn, hdv, hgV⟩ := hs.ex
  refine both_se (cmp_both (R := fun σ Q x y H2 => ∃ a ws, y = .ref a ∧ ObR (kz X) H2 a c ws ∧ spF (kz X) ER C false f np [y, x] H2 (fun v H3 => methV (if neg then .notIn else .in_) v H3 Q) (WE Wx σ)) (fun pins σ v u s2 x y H2 Q I2 rx ry ⟨a, ws, ey, ⟨_, _, dx, ea⟩, q⟩ => ?_) he ho hm fun σ H Q h => ?_)
  case refine_2 =>
    have h1 := rdE_meth (ar := [.inl 1, .inl 0]) (ts := [r2]) (np := np) (dv := dv) hE (fun d hd => by simp at hd) rfl hnp.symm h
    refine rdE_mono h1 fun x H1 ⟨_, q⟩ => ?_
    obtain ⟨g, st, Qd, Xd, A, w, hq, hx⟩ := q
    have w' : wE C r2 st (fun d st1 => Qd [d] st1) Xd := by simpa only [wL] using w
    refine ⟨g, st, _, Xd, A, w', fun d st1 v g1 H2 w1 x1 A1 r1 => ?_, hx⟩
    obtain ⟨z1, _, _, z3⟩ := hq [d] st1 [v] g1 H2 w1 x1 A1 ⟨v, [], rfl, r1, rfl⟩ rfl
    obtain ⟨a, ws, e1, ob⟩ := z1 (by cases neg <;> rfl)
    exact ⟨a, ws, e1, ob, spF_E (fun _ _ _ z => z.2) z3⟩
  subst ey
  obtain rfl : u = Value.ref a := ry
  obtain ⟨od, J⟩ := inst_of I2 ea
  obtain ⟨mm, fr⟩ := I2.fr
  have call_ : ∀ (Q2 : VK), spF (kz X) ER C false f np [.ref a, x] H2 Q2 (WE Wx σ) → wpAny (model X.prog X.w) X.A (call (.ref fx) [.ref a, v]) (EP X pins σ Q2) X.xe s2 := fun Q2 q => by
    refine run_call (ks := []) (zs := []) (ws := []) (vs := [.ref a, x]) F hr hbn (passAt tk σ) I2 (.cons rfl (.cons rx .nil)) .nil rfl rfl ?_
    rw [hgV [.ref a, x] [] rfl rfl]
    exact q
  cases neg with
  | false =>
    refine PySem.W.in_K fr I2.ok.mod.kin J hD.at_ hD.fn (thn (call_ _ q) fun u3 s3 ⟨y3, H3, I3, r3, b, e3, q3⟩ => ?_)
    subst e3
    cases r3
    exact wpAny_truthy_bool ⟨.bl b, H3, I3, rfl, q3⟩
  | true =>
    refine PySem.W.notIn_K fr I2.ok.mod.kin J hD.at_ hD.fn (thn (call_ _ q) fun u3 s3 ⟨y3, H3, I3, r3, b, e3, q3⟩ => ?_)
    subst e3
    cases r3
    exact wpAny_truthy_bool ⟨.bl (!b), H3, I3, rfl, q3⟩
/-- len(o) -/
theorem se_lenO (hcalm : X.calm = true) (hD : Dun X.K c "__len__" fx) (F : FnG X.prog X.w X.K X.mg X.base (L2.CX X.prog X.w) k fx fd ps (spF ⟨X.K, none⟩ ER C false f np)) (hr : RoomG (k + 1) X.A) (hs : Shp X.K fd ps 1 [] [.inl 0]) (hnp : np = 1) (tk : Takes X Wx) (hE : ExOk ER) (ho : SE X ER Wx C o r false)
    (hg : Gl X "len") (hmg : X.mg "len" = none) (hst : notStar o = true) : SE X ER Wx C (.Call (.Name "len" p) [o] [] pos) (.meth .len c f [r] [.inl 0]) false := by
  rw [show (⟨X.K, none⟩ : Kc) = kz X by rw [kz_calm hcalm]] at F
  obtain ⟨gg, gV, dv, hbn, hdv, hgV⟩ := hs.ex
  refine ⟨fun pins s σ H Q I h => ?_⟩
  have h1 := rdE_meth (ar := [.inl 0]) (ts := []) (np := np) (dv := dv) hE hdv rfl hnp.symm h
  refine wpAny_Call_Name_kw (ld_blt I hg hmg (show bootBuiltins "len" = some (.builtin "len") by decide +kernel) ?_ (by decide) (by decide))
  have pa : ∀ R : V → Hp → Prop, rdE (kz X) ER Wx (wE C r) false σ H R → wpAny (model X.prog X.w) X.A (spliced (backTo pos (starEach [o] X.env))) (fun us s1 => ∃ x H1 u, us = [u] ∧ Inv X pins σ H1 s1 ∧ RelV x u ∧ R x H1) X.xe s := fun R hR =>
    thn ((pa_cons ho pa_nil (star_of hst _ _)).run pos pins s σ H (fun vs H1 => ∃ x, vs = [x] ∧ R x H1) I (rdE_mono hR fun x H1 q => ⟨x, rfl, q⟩)) fun us s1 ⟨vs, H1, I1, rv, x, e, q⟩ => by
      subst e
      obtain ⟨u, rfl, rx⟩ := vals1 rv
      exact ⟨x, H1, u, rfl, I1, rx, q⟩
  refine PyProof.Rows.callWith_builtin1 (thn (pa _ h1) fun us s1 ⟨x, H1, u, eu, I1, rx, q0, q1⟩ => ?_) (star_of hst _ _) rfl
  subst eu
  obtain ⟨a, vs0, rfl, _, _, dx, ea⟩ := q0 rfl
  obtain rfl : u = Value.ref a := rx
  obtain ⟨od, J⟩ := inst_of I1 ea
  obtain ⟨_, _, _, q2⟩ := splitL_nil q1
  obtain ⟨mm, fr⟩ := I1.fr
  have q3 : spF (kz X) ER C false f np (gV [.ref a] []) H1 (fun v H3 => methV .len v H3 Q) (WE Wx σ) := by rw [hgV [.ref a] [] rfl rfl]; exact spF_E (fun _ _ _ z => z.2) q2
  have rc := run_call1 (ks := []) (zs := []) (ws := []) (vs := [.ref a]) (us := [.ref a]) F hr hbn (passAt tk σ) I1 (.cons rfl .nil) .nil rfl rfl q3
  refine PySem.W.len_K fr I1.ok.mod.kin J hD.at_ hD.fn (thn rc fun u3 s3 ⟨y3, H3, I3, r3, b, e3, hb3, q3⟩ => ?_)
  subst e3
  obtain ⟨t3, rfl⟩ := r3
  exact ⟨⟨hb3.1, by omega⟩, .int b, H3, I3.tok _, ⟨_, rfl⟩, q3⟩
end
end
end Mp
/-! set(..) of a list of ints, of a tuple of tuples of ints -/
namespace Mp
open PySem PySem.Spec PyProof.Rows L2
section
variable {P : Program} {w : World} {A : Around} {E : Value → Shared → Prop} {s : Shared}
theorem call_set_lstI {l : Addr} {items : Array Value} (ns : List Int) {Q : Value → Shared → Prop} (hh : A.handled = none) (hl : s.heap.IsList l items) (hit : IntsAre items.toList ns) (hb : ns.length + 1 < scanBound)
    (h : ∀ (h' : Heap) (tk c : Nat), SetR w h' s.heap.objs.size (fun j => decide (j ∈ ns)) c → c ≤ ns.length → (∀ b o, s.heap.get? b = some o → h'.get? b = some o) → Q (.ref s.heap.objs.size) { s with heap := h', toks := tk }) :
    wpAny (model P w) A (call (.type "set") [.ref l]) Q E s := by
  have hisz : items.size = ns.length := by
    have q := IntsAre.length hit
    rw [Array.length_toList] at q
    exact q
  obtain ⟨c, tl, hmro⟩ := F.called_set.mro
  have hmade := F.called_set.made
  have hsub := F.called_set.sub
  refine wpAny_call (codeAny_of_tree ?_)
  show wpAny _ _ (callAny (.type "set") _) _ _ _
  refine wpAny_pure ⟨Code.quiet_builtin _ (by decide +kernel), codeAny_builtin F.entry_type_call ?_⟩
  rw [Around.under_plain (weight_type_call_type "set" [.ref l] []) rfl]
  have h1 := F.called_set.notType
  have h2 := F.called_set.canCreate
  have hct := F.typeCall_set_1 (.ref l)
  repeat (any_goals (first | assumption | wp_step))

  refine codeAny_mono (code_set_led1 (.ref l) (E := E) (Q₁ := fun obj s₁ => obj = .ref s.heap.objs.size ∧ s₁ = { s with heap := s.heap.push { cls := .type "set", dict := none, data := .set #[] 0 (.fresh 0 0 (!w.params.followText "set-order")) } }) ⟨rfl, rfl⟩) fun r s₁ hr => ?_
  cases r with
  | error e => exact hr
  | ok fl =>
    cases fl with
    | ret obj =>
      obtain ⟨rfl, rfl⟩ := hr
      have hS : (s.heap.push { cls := .type "set", dict := none, data := .set #[] 0 (.fresh 0 0 (!w.params.followText "set-order")) }).get? s.heap.objs.size = some { cls := .type "set", dict := none, data := .set #[] 0 (.fresh 0 0 (!w.params.followText "set-order")) } := Heap.get?_push_size _ rfl
      have hT : Shared.TypeIs { s with heap := s.heap.push { cls := .type "set", dict := none, data := .set #[] 0 (.fresh 0 0 (!w.params.followText "set-order")) } } (.ref s.heap.objs.size) "set" := ⟨_, hS, rfl⟩
      have hli := F.called_set.init.lookup
      have hbi := F.called_set.init.bind (.ref s.heap.objs.size)
      repeat (any_goals (first | assumption | wp_step))

      refine codeAny_mono (codeAny_call_builtin (R := wants (fun r s₂ => r = .none ∧ ∃ h' tk c, s₂ = { s with heap := h', toks := tk } ∧ SetR w h' s.heap.objs.size (fun j => decide (j ∈ ns)) c ∧ c ≤ ns.length ∧
          (∀ b o, s.heap.get? b = some o → h'.get? b = some o)) E) F.called_set.init.plain F.entry_set_init (check_set_init_1 hT ?_)) fun r₂ s₂ hr₂ => ?_
      · obtain ⟨ol, hol, hcl, nl, hdl⟩ := hl
        obtain ⟨ocls, odict, odata, oslots⟩ := ol
        simp only at hcl hdl
        subst hcl; subst hdl
        have hol' : (s.heap.push { cls := .type "set", dict := none, data := .set #[] 0 (.fresh 0 0 (!w.params.followText "set-order")) }).get? l = some { cls := .type "list", dict := odict, data := .seq items nl, slots := oslots } := Heap.get?_push_of_some _ hol
        have hsls := F.sub_list_set
        have hslf := F.sub_list_frozenset
        have hne : (Value.type "list" == Value.type "dict") = false := by decide
        have hl1 : (s.heap.push { cls := .type "set", dict := none, data := .set #[] 0 (.fresh 0 0 (!w.params.followText "set-order")) }).IsList l items := ⟨_, hol', rfl, nl, rfl⟩
        unfold Builtin.«set.__init__» noKeywords Builtin.Frozenset.updateFrom
        generalize hPI : pyIter = PI
        wp_walk
        subst hPI

        refine wpAny_pyIter_list hl1 ?_
        refine wpAny_bind (wpAny_runValue ?_)
        have hlS : l < s.heap.objs.size := Heap.lt_size hol
        have hh3 : A.in1.in1.in1.handled = none := by simp [hh]
        have hz1 : (s.heap.push { cls := .type "set", dict := none, data := .set #[] 0 (.fresh 0 0 (!w.params.followText "set-order")) }).objs.size = s.heap.objs.size + 1 := Heap.size_push ..
        have hneI : l ≠ (s.heap.push { cls := .type "set", dict := none, data := .set #[] 0 (.fresh 0 0 (!w.params.followText "set-order")) }).objs.size := by
          rw [Heap.size_push]; exact Nat.ne_of_lt (Nat.lt_succ_of_lt hlS)
        have hSf : s.heap.objs.size ∉ [(s.heap.push { cls := .type "set", dict := none, data := .set #[] 0 (.fresh 0 0 (!w.params.followText "set-order")) }).objs.size, l] := by
          rw [Heap.size_push]; simp only [List.mem_cons, List.mem_singleton, List.not_mem_nil, or_false, not_or]
          exact ⟨Nat.ne_of_lt (Nat.lt_succ_self _), Nat.ne_of_gt hlS⟩
        have hval : ∀ (i : Nat) (v : Value), items[i]? = some v → ∃ k t, ns[i]? = some k ∧ v = .int k t := fun i v hv => by
          have hi : i < ns.length := by rw [← hisz]; exact (Array.getElem?_eq_some_iff.mp hv).1
          obtain ⟨t, e⟩ := PyProof.Rows.IntsAre.int_at hit i v (by rw [Array.getElem?_toList]; exact hv)
          refine ⟨ns[i], t, List.getElem?_eq_getElem hi, ?_⟩
          rw [e, List.getD_eq_getElem?_getD, List.getElem?_eq_getElem hi] <;> rfl
        refine set_update_ints ((Walks.list hh3 _ l hneI items).toS) s.heap.objs.size
          hSf ns hisz hb hval (items.size - 0) 0 _ (by omega) (Nat.zero_le _)
          ⟨⟨_, Heap.get?_push_size _ rfl, rfl, rfl⟩, (hl1.push _)⟩ ?hS0 ?hR
        case hS0 =>
          have hget : ((s.heap.push { cls := .type "set", dict := none, data := .set #[] 0 (.fresh 0 0 (!w.params.followText "set-order")) }).push { cls := .type "list_iterator", data := .fields #[.ref l, .int 0 0] }).get? s.heap.objs.size
              = some { cls := .type "set", dict := none, data := .set #[] 0 (.fresh 0 0 (!w.params.followText "set-order")) } := Heap.get?_push_of_some _ hS
          exact ⟨0, Nat.le_refl 0, setR_new_at hget⟩
        case hR =>
          intro s' c' hm hc' hS'
          obtain ⟨h', g2, d', tk', os'⟩ := s'
          have eg : g2 = s.gens := hm.gens
          have ed : d' = s.drawn := hm.drawn
          have eo : os' = s.os := hm.os
          subst eg; subst ed; subst eo
          show wpAny _ _ _ _ _ _
          refine wpAny_pure ?_
          show wpAny _ _ (ret Value.none) _ _ _
          rw [hisz] at hc'
          refine wpAny_pure ⟨rfl, h', tk', c', rfl, hS', hc', fun b o e => ?_⟩
          have hb0 : b < s.heap.objs.size := Heap.lt_size e
          have hb1 : b ≠ s.heap.objs.size := Nat.ne_of_lt hb0
          have hb2 : b ≠ (s.heap.push { cls := .type "set", dict := none, data := .set #[] 0 (.fresh 0 0 (!w.params.followText "set-order")) }).objs.size := by
            rw [Heap.size_push]; exact Nat.ne_of_lt (Nat.lt_succ_of_lt hb0)
          exact hm.heap b o (by simp only [List.mem_cons, List.mem_singleton, List.not_mem_nil, or_false, not_or]; exact ⟨hb1, hb2⟩) (Heap.get?_push_of_some _ (Heap.get?_push_of_some _ e))

      · cases r₂ with
        | error e => exact hr₂
        | ok fl₂ =>
          cases fl₂ with
          | ret r =>
            obtain ⟨rfl, h', tk, c', rfl, hS', hc', hk'⟩ := hr₂
            repeat (any_goals (first | assumption | wp_step))
            exact h _ _ _ hS' hc' hk'
          | _ => exact hr₂.elim
    | _ => exact hr.elim
theorem call_set_tupsT {l : Addr} {items : Array Value} (ks : List (Addr × List Int)) {Q : Value → Shared → Prop} (hh : A.handled = none) (hl : s.heap.IsTuple l items) (hit : items.toList = ks.map fun p => Value.ref p.1)
    (hk : ∀ p ∈ ks, IsT P w s.heap p.2 p.1) (hfew : ks.length < 64) (hu : A.units + 3 < cLine)
    (h : ∀ (h' : Heap) (tk : Nat) L es ep t, SetTR P w h' s.heap.objs.size L es ep t → Got ks ks.length L → (∀ b o, s.heap.get? b = some o → h'.get? b = some o) → Q (.ref s.heap.objs.size) { s with heap := h', toks := tk }) :
    wpAny (model P w) A (call (.type "set") [.ref l]) Q E s := by
  have hisz : items.size = ks.length := by
    have q := congrArg List.length hit
    rw [Array.length_toList, List.length_map] at q
    exact q
  obtain ⟨c, tl, hmro⟩ := F.called_set.mro
  have hmade := F.called_set.made
  have hsub := F.called_set.sub
  refine wpAny_call (codeAny_of_tree ?_)
  show wpAny _ _ (callAny (.type "set") _) _ _ _
  refine wpAny_pure ⟨Code.quiet_builtin _ (by decide +kernel), codeAny_builtin F.entry_type_call ?_⟩
  rw [Around.under_plain (weight_type_call_type "set" [.ref l] []) rfl]
  have h1 := F.called_set.notType
  have h2 := F.called_set.canCreate
  have hct := F.typeCall_set_1 (.ref l)
  repeat (any_goals (first | assumption | wp_step))

  refine codeAny_mono (code_set_led1 (.ref l) (E := E) (Q₁ := fun obj s₁ => obj = .ref s.heap.objs.size ∧ s₁ = { s with heap := s.heap.push { cls := .type "set", dict := none, data := .set #[] 0 (.fresh 0 0 (!w.params.followText "set-order")) } }) ⟨rfl, rfl⟩) fun r s₁ hr => ?_
  cases r with
  | error e => exact hr
  | ok fl =>
    cases fl with
    | ret obj =>
      obtain ⟨rfl, rfl⟩ := hr
      have hS : (s.heap.push { cls := .type "set", dict := none, data := .set #[] 0 (.fresh 0 0 (!w.params.followText "set-order")) }).get? s.heap.objs.size = some { cls := .type "set", dict := none, data := .set #[] 0 (.fresh 0 0 (!w.params.followText "set-order")) } := Heap.get?_push_size _ rfl
      have hT : Shared.TypeIs { s with heap := s.heap.push { cls := .type "set", dict := none, data := .set #[] 0 (.fresh 0 0 (!w.params.followText "set-order")) } } (.ref s.heap.objs.size) "set" := ⟨_, hS, rfl⟩
      have hli := F.called_set.init.lookup
      have hbi := F.called_set.init.bind (.ref s.heap.objs.size)
      repeat (any_goals (first | assumption | wp_step))

      refine codeAny_mono (codeAny_call_builtin (R := wants (fun r s₂ => r = .none ∧ ∃ h' tk L es ep t, s₂ = { s with heap := h', toks := tk } ∧ SetTR P w h' s.heap.objs.size L es ep t ∧ Got ks ks.length L ∧
          (∀ b o, s.heap.get? b = some o → h'.get? b = some o)) E) F.called_set.init.plain F.entry_set_init (check_set_init_1 hT ?_)) fun r₂ s₂ hr₂ => ?_
      · obtain ⟨ol, hol, hcl, nl, hdl⟩ := hl
        obtain ⟨ocls, odict, odata, oslots⟩ := ol
        simp only at hcl hdl
        subst hcl; subst hdl
        have hol' : (s.heap.push { cls := .type "set", dict := none, data := .set #[] 0 (.fresh 0 0 (!w.params.followText "set-order")) }).get? l = some { cls := .type "tuple", dict := odict, data := .seq items nl, slots := oslots } := Heap.get?_push_of_some _ hol
        have hsls := F.sub_tuple_set
        have hslf := F.sub_tuple_frozenset
        have hne : (Value.type "tuple" == Value.type "dict") = false := by decide
        have hl1 : (s.heap.push { cls := .type "set", dict := none, data := .set #[] 0 (.fresh 0 0 (!w.params.followText "set-order")) }).IsTuple l items := ⟨_, hol', rfl, nl, rfl⟩
        unfold Builtin.«set.__init__» noKeywords Builtin.Frozenset.updateFrom
        generalize hPI : pyIter = PI
        wp_walk
        subst hPI

        refine wpAny_pyIter_tuple hl1 ?_
        refine wpAny_bind (wpAny_runValue ?_)
        have hlS : l < s.heap.objs.size := Heap.lt_size hol
        have hh3 : A.in1.in1.in1.handled = none := by simp [hh]
        have hz1 : (s.heap.push { cls := .type "set", dict := none, data := .set #[] 0 (.fresh 0 0 (!w.params.followText "set-order")) }).objs.size = s.heap.objs.size + 1 := Heap.size_push ..
        have hneI : l ≠ (s.heap.push { cls := .type "set", dict := none, data := .set #[] 0 (.fresh 0 0 (!w.params.followText "set-order")) }).objs.size := by
          rw [Heap.size_push]; exact Nat.ne_of_lt (Nat.lt_succ_of_lt hlS)
        have hSf : s.heap.objs.size ∉ [(s.heap.push { cls := .type "set", dict := none, data := .set #[] 0 (.fresh 0 0 (!w.params.followText "set-order")) }).objs.size, l] := by
          rw [Heap.size_push]; simp only [List.mem_cons, List.mem_singleton, List.not_mem_nil, or_false, not_or]
          exact ⟨Nat.ne_of_lt (Nat.lt_succ_self _), Nat.ne_of_gt hlS⟩
        have hval : ∀ (i : Nat) (v : Value), items[i]? = some v → ∃ p, ks[i]? = some p ∧ v = .ref p.1 := fun i v hv => by
          have q : items.toList[i]? = some v := by rw [Array.getElem?_toList]; exact hv
          rw [hit, List.getElem?_map] at q
          cases hq : ks[i]? with
          | none => rw [hq] at q; cases q
          | some p =>
            rw [hq] at q
            exact ⟨p, rfl, (Option.some.inj q).symm⟩
        have none_of : ∀ b, s.heap.objs.size ≤ b → s.heap.get? b = none := fun b hb => by
          cases q : s.heap.get? b with
          | none => rfl
          | some o => exact absurd (Nat.lt_of_lt_of_le (Heap.lt_size q) hb) (Nat.lt_irrefl _)
        refine set_update_tups ((Walks.tuple hh3 _ l hneI items).toS) s.heap.objs.size
          hSf ks hisz hfew hval s.heap hk (none_of _ (Nat.le_refl _)) (fun b hb => none_of b (by
            rw [List.mem_singleton.mp hb, Heap.size_push]
            exact Nat.le_succ _)) hu (items.size - 0) 0 _ (by omega) (Nat.zero_le _)
          ⟨⟨_, Heap.get?_push_size _ rfl, rfl, rfl⟩, (hl1.push _)⟩ (fun b o e => Heap.get?_push_of_some _ (Heap.get?_push_of_some _ e)) ?hS0 ?hR
        case hS0 =>
          have hget : ((s.heap.push { cls := .type "set", dict := none, data := .set #[] 0 (.fresh 0 0 (!w.params.followText "set-order")) }).push { cls := .type "tuple_iterator", data := .fields #[.ref l, .int 0 0] }).get? s.heap.objs.size
              = some { cls := .type "set", dict := none, data := .set #[] 0 (.fresh 0 0 (!w.params.followText "set-order")) } := Heap.get?_push_of_some _ hS
          exact ⟨[], #[], 0, _, setTR_fresh hget, Got.zero ks⟩
        case hR =>
          intro s' L es ep t hm hS' g' hkp
          obtain ⟨h', g2, d', tk', os'⟩ := s'
          have eg : g2 = s.gens := hm.gens
          have ed : d' = s.drawn := hm.drawn
          have eo : os' = s.os := hm.os
          subst eg; subst ed; subst eo
          show wpAny _ _ _ _ _ _
          refine wpAny_pure ?_
          show wpAny _ _ (ret Value.none) _ _ _
          rw [hisz] at g'
          exact wpAny_pure ⟨rfl, h', tk', L, es, ep, t, rfl, hS', g', hkp⟩

      · cases r₂ with
        | error e => exact hr₂
        | ok fl₂ =>
          cases fl₂ with
          | ret r =>
            obtain ⟨rfl, h', tk, L, es, ep, t, rfl, hS', g', hk'⟩ := hr₂
            repeat (any_goals (first | assumption | wp_step))
            exact h _ _ _ _ _ _ hS' g' hk'
          | _ => exact hr₂.elim
    | _ => exact hr.elim
end
end Mp
namespace Mp
open PySem PySem.Spec PyProof.Rows L2
/-! ### sorted(..) of ints -/
theorem insI_perm (a : Int) : ∀ l : List Int, (insI a l).Perm (a :: l)
  | [] => .refl _
  | b :: l => by
    unfold insI
    split
    · exact .refl _
    · exact ((insI_perm a l).cons b).trans (.swap a b l)
theorem sortI_perm : ∀ l : List Int, (sortI l).Perm l
  | [] => .refl _
  | a :: l => (insI_perm a _).trans ((sortI_perm l).cons a)
theorem insI_pw (a : Int) : ∀ {l : List Int}, l.Pairwise (· ≤ ·) → (insI a l).Pairwise (· ≤ ·)
  | [], _ => by simp [insI]
  | b :: l, h => by
    have h' := List.pairwise_cons.mp h
    unfold insI
    split
    · rename_i hab
      refine List.pairwise_cons.mpr ⟨fun x hx => ?_, h⟩
      rcases List.mem_cons.mp hx with e | e
      · rw [e]; exact hab
      · have := h'.1 x e; omega
    · rename_i hab
      refine List.pairwise_cons.mpr ⟨fun x hx => ?_, insI_pw a h'.2⟩
      rcases List.mem_cons.mp ((insI_perm a l).mem_iff.mp hx) with e | e
      · rw [e]; omega
      · exact h'.1 x e
theorem sortI_pw : ∀ l : List Int, (sortI l).Pairwise (· ≤ ·)
  | [] => by simp [sortI]
  | a :: l => insI_pw a (sortI_pw l)
theorem sorted_one : ∀ {a b : List Int}, a.Perm b → a.Pairwise (· ≤ ·) → b.Pairwise (· ≤ ·) → a = b
  | [], b, p, _, _ => by rw [List.nil_perm.mp p]
  | x :: a, [], p, _, _ => by have := p.length_eq; simp at this
  | x :: a, y :: b, p, ha, hb => by
    have ha' := List.pairwise_cons.mp ha
    have hb' := List.pairwise_cons.mp hb
    have e : x = y := by
      have h1 : x ∈ y :: b := p.mem_iff.mp (by simp)
      have h2 : y ∈ x :: a := p.mem_iff.mpr (by simp)
      have l1 : y ≤ x := (List.mem_cons.mp h1).elim (fun e => by omega) fun z => hb'.1 x z
      have l2 : x ≤ y := (List.mem_cons.mp h2).elim (fun e => by omega) fun z => ha'.1 y z
      omega
    subst e
    rw [sorted_one (List.perm_cons x |>.mp p) ha'.2 hb'.2]
theorem sortI_one {ns l : List Int} (p : l.Perm ns) (h : l.Pairwise (· ≤ ·)) : l = sortI ns := sorted_one (p.trans (sortI_perm ns).symm) h (sortI_pw ns)
theorem Reps.ints {K : Kc} {g : Gh} {n : Nat} {H : Hp} (ys : List Int) : Reps K g n H (ys.map D.int) (ys.map V.int) := by
  induction ys with
  | nil => rfl
  | cons y ys ih => exact ⟨_, _, rfl, rfl, ih⟩
/-! ### pairs of ints -/
theorem leP_iff {p q : Int × Int} : leP p q = true ↔ p.1 < q.1 ∨ (p.1 = q.1 ∧ p.2 ≤ q.2) := by
  unfold leP
  simp only [Bool.or_eq_true, Bool.and_eq_true, decide_eq_true_eq]
theorem leP_no {p q : Int × Int} : SrtO.lexB q p = false ↔ leP p q = true := by
  rw [SrtO.lexB_no, leP_iff]
  omega
theorem leP_anti {p q : Int × Int} (h1 : leP p q = true) (h2 : leP q p = true) : p = q := by
  rw [leP_iff] at h1 h2
  exact Prod.ext (by omega) (by omega)
theorem insP_perm (a : Int × Int) : ∀ l : List (Int × Int), (insP a l).Perm (a :: l)
  | [] => .refl _
  | b :: l => by
    unfold insP
    split
    · exact .refl _
    · exact ((insP_perm a l).cons b).trans (.swap a b l)
theorem sortP_perm : ∀ l : List (Int × Int), (sortP l).Perm l
  | [] => .refl _
  | a :: l => (insP_perm a _).trans ((sortP_perm l).cons a)
theorem insP_pw (a : Int × Int) : ∀ {l : List (Int × Int)}, l.Pairwise (fun p q => leP p q = true) → (insP a l).Pairwise (fun p q => leP p q = true)
  | [], _ => by simp [insP]
  | b :: l, h => by
    have h' := List.pairwise_cons.mp h
    unfold insP
    split
    · rename_i hab
      refine List.pairwise_cons.mpr ⟨fun x hx => ?_, h⟩
      rcases List.mem_cons.mp hx with e | e
      · rw [e]; exact hab
      · have z := h'.1 x e
        rw [leP_iff] at z hab ⊢
        omega
    · rename_i hab
      refine List.pairwise_cons.mpr ⟨fun x hx => ?_, insP_pw a h'.2⟩
      rcases List.mem_cons.mp ((insP_perm a l).mem_iff.mp hx) with e | e
      · rw [e]
        rw [leP_iff] at hab ⊢
        omega
      · exact h'.1 x e
theorem sortP_pw : ∀ l : List (Int × Int), (sortP l).Pairwise (fun p q => leP p q = true)
  | [] => by simp [sortP]
  | a :: l => insP_pw a (sortP_pw l)
theorem sortedP_one : ∀ {a b : List (Int × Int)}, a.Perm b → a.Pairwise (fun p q => leP p q = true) → b.Pairwise (fun p q => leP p q = true) → a = b
  | [], b, p, _, _ => by rw [List.nil_perm.mp p]
  | x :: a, [], p, _, _ => by have := p.length_eq; simp at this
  | x :: a, y :: b, p, ha, hb => by
    have ha' := List.pairwise_cons.mp ha
    have hb' := List.pairwise_cons.mp hb
    have rf : ∀ z : Int × Int, leP z z = true := fun z => by rw [leP_iff]; omega
    have e : x = y := by
      have h1 : x ∈ y :: b := p.mem_iff.mp (by simp)
      have h2 : y ∈ x :: a := p.mem_iff.mpr (by simp)
      have l1 : leP y x = true := (List.mem_cons.mp h1).elim (fun e => by rw [e]; exact rf _) fun z => hb'.1 x z
      have l2 : leP x y = true := (List.mem_cons.mp h2).elim (fun e => by rw [e]; exact rf _) fun z => ha'.1 y z
      exact leP_anti l2 l1
    subst e
    rw [sortedP_one (List.perm_cons x |>.mp p) ha'.2 hb'.2]
theorem sortP_one {ns l : List (Int × Int)} (p : l.Perm ns) (h : l.Pairwise (fun p q => leP p q = true)) : l = sortP ns := sortedP_one (p.trans (sortP_perm ns).symm) h (sortP_pw ns)
theorem mem_onceL {α : Type} [DecidableEq α] {x : α} : ∀ {l : List α}, x ∈ onceL l ↔ x ∈ l
  | [] => by simp [onceL]
  | a :: l => by
    unfold onceL
    split
    · rename_i h
      rw [mem_onceL, List.mem_cons]
      exact ⟨.inr, fun z => z.elim (fun e => by rw [e]; exact h) id⟩
    · rw [List.mem_cons, List.mem_cons, mem_onceL]
theorem nodup_onceL {α : Type} [DecidableEq α] : ∀ (l : List α), (onceL l).Nodup
  | [] => by simp [onceL]
  | a :: l => by
    unfold onceL
    split
    · exact nodup_onceL l
    · rename_i h
      exact List.nodup_cons.mpr ⟨fun z => h (mem_onceL.mp z), nodup_onceL l⟩
theorem onceL_perm {α : Type} [DecidableEq α] {l m : List α} (h1 : m.Nodup) (h2 : ∀ x, x ∈ m ↔ x ∈ l) : m.Perm (onceL l) :=
  (List.perm_ext_iff_of_nodup h1 (nodup_onceL l)).mpr fun x => (h2 x).trans mem_onceL.symm

/-! ### sorted(..) of pairs, over the heap -/
abbrev Prs := List (Addr × (Int × Int))
def adrV : Value → Addr
  | .ref a => a
  | _ => 0
/-- the pair at an address -/
def keyOfA (ks : Prs) (v : Value) : Int × Int := match ks.find? (fun q => q.1 == adrV v) with
  | some q => q.2
  | none => (0, 0)
theorem isPair_one {h : Heap} {v : Value} {x y x' y' : Int} (h1 : Srt.IsPair h v x y) (h2 : Srt.IsPair h v x' y') : x = x' ∧ y = y' := by
  obtain ⟨a, o, t, u, n, e, ho, hc, hd⟩ := h1
  obtain ⟨a', o', t', u', n', e', ho', hc', hd'⟩ := h2
  subst e
  cases e'
  rw [ho] at ho'
  cases ho'
  rw [hd] at hd'
  injection hd' with e1 e2
  injection e1 with e1
  injection e1 with e3 e4
  injection e4 with e4 e5
  injection e3
  injection e4
  exact ⟨by assumption, by assumption⟩
theorem keyA_of {h : Heap} {ks : Prs} (hp : ∀ q ∈ ks, Srt.IsPair h (.ref q.1) q.2.1 q.2.2) : ∀ q ∈ ks, keyOfA ks (.ref q.1) = q.2 := fun q hq => by
  unfold keyOfA
  cases e : ks.find? (fun r => r.1 == adrV (.ref q.1)) with
  | none =>
    have z := List.find?_eq_none.mp e q hq
    simp [adrV] at z
  | some r =>
    have hr := List.mem_of_find?_eq_some e
    have hb := List.find?_some e
    have e1 : r.1 = q.1 := by simpa [adrV] using hb
    have z := isPair_one (hp q hq) (by have w := hp r hr; rw [e1] at w; exact w)
    exact Prod.ext z.1.symm z.2.symm
/-- back from the sorted values to the pairs -/
theorem prs_back {h : Heap} {ks : Prs} {vs out : List Value} (hp : ∀ q ∈ ks, Srt.IsPair h (.ref q.1) q.2.1 q.2.2) (hv : vs.Perm (ks.map fun q => Value.ref q.1)) (ho : out.Perm vs) (hs : SrtO.Srtd (fun v u => SrtO.lexB (keyOfA ks v) (keyOfA ks u)) out) :
    ∃ L : Prs, out = L.map (fun q => Value.ref q.1) ∧ L.Perm ks ∧ L.Pairwise fun q r => leP q.2 r.2 = true := by
  have pm := ho.trans hv
  have e1 : (ks.map fun q => Value.ref q.1).map (fun v => ((adrV v, keyOfA ks v) : Addr × (Int × Int))) = ks := by
    rw [List.map_map]
    conv => rhs; rw [← List.map_id ks]
    refine List.map_congr_left fun q hq => ?_
    show ((q.1, keyOfA ks (.ref q.1)) : Addr × (Int × Int)) = q
    rw [keyA_of hp q hq]
  have e2 : (out.map fun v => ((adrV v, keyOfA ks v) : Addr × (Int × Int))).map (fun q => Value.ref q.1) = out := by
    rw [List.map_map]
    conv => rhs; rw [← List.map_id out]
    refine List.map_congr_left fun v hv => ?_
    obtain ⟨q, _, e⟩ := List.mem_map.mp (pm.mem_iff.mp hv)
    subst e
    rfl
  refine ⟨out.map fun v => ((adrV v, keyOfA ks v) : Addr × (Int × Int)), e2.symm, ?_, ?_⟩
  · have z := pm.map (fun v => ((adrV v, keyOfA ks v) : Addr × (Int × Int)))
    rw [e1] at z
    exact z
  · refine List.pairwise_map.mpr (hs.imp fun {v u} e => ?_)
    exact leP_no.mp e
section
variable {P : Program} {w : World} {A : Around} {E : Value → Shared → Prop} {s : Shared}
theorem isPair_of {h : Heap} {b : Addr} {x y : Int} (z : IsT P w h [x, y] b) : Srt.IsPair h (.ref b) x y := by
  obtain ⟨o, items, n, ho, hc, hd, hi⟩ := z
  have hi2 := ints_of_items hi
  obtain ⟨its⟩ := items
  cases hi2 with
  | cons _ t r => cases r with
    | cons _ u r2 => cases r2; exact ⟨b, o, t, u, n, rfl, ho, hc, hd⟩
/-- sorted(set of pairs) -/
theorem sorted_setP {a : Addr} {L : List (Addr × List Int)} {es : Array (Int × Value)} {ep : Nat} {t : SetTable} {Q : Value → Shared → Prop} (R : SetTR P w s.heap a L es ep t) (hh : A.handled = none)
    (ks : Prs) (hL : L = ks.map fun q => (q.1, [q.2.1, q.2.2]))
    (hQ : ∀ s' p (out : Array Value) (c : Nat) (L' : Prs), (∀ b o, s.heap.get? b = some o → s'.heap.get? b = some o) → s'.gens = s.gens → s'.os = s.os → s.heap.objs.size ≤ p →
      s'.heap.get? p = some (seqObj "list" out c) → out.toList = L'.map (fun q => Value.ref q.1) → L'.Perm ks → L'.Pairwise (fun q r => leP q.2 r.2 = true) → Q (.ref p) s') :
    wpAny (model P w) A (call (.builtin "sorted") [.ref a]) Q E s := by
  obtain ⟨o, ho, hex, hd⟩ := R.ob
  have hsz := R.size
  have hfew := R.few
  refine Calls.call_function_entry kind_sorted plain_sorted entry_sorted (args_sorted1 _) ?_
  unfold Builtin.«sorted»
  refine wpAny_bind (m := checkCount "sorted" 1 1 _) (wpAny_pure ?_)
  refine wpAny_bind (collect_set (A := A.in1) hh ⟨o, ho, hex.1, hd⟩ R.fits (by unfold scanBound; omega) R.tab.ris R.led fun s1 vs k1 hz g1 o1 pm => ?_)
  have hes : es.toList.map (·.2) = ks.map fun q => Value.ref q.1 := by
    rw [R.rows]
    unfold rowsOf
    rw [List.map_map, hL, List.map_map] <;> rfl
  rw [hes] at pm
  have hvl : vs.length < 64 := by
    have e1 : L.length = ks.length := by rw [hL, List.length_map]
    rw [pm.length_eq, List.length_map, ← e1]
    exact hfew
  have hzl : vs.length ≤ sizeLine := by rw [sizeLine_eq]; omega
  refine wpAny_bind (wpAny_newList ?_ hzl)
  have hoL : (s1.heap.push (seqObj "list" vs.toArray 0)).get? s1.heap.objs.size = some (seqObj "list" vs.toArray 0) := Heap.get?_push_size _ rfl
  have hp : ∀ q ∈ ks, Srt.IsPair (s1.heap.push (seqObj "list" vs.toArray 0)) (.ref q.1) q.2.1 q.2.2 := fun q hq => by
    have hm : ((q.1, [q.2.1, q.2.2]) : Addr × List Int) ∈ L := by rw [hL]; exact List.mem_map.mpr ⟨q, hq, rfl⟩
    exact isPair_of (P := P) (w := w) (isT_keep (R.tup _ hm) fun b u e => Heap.get?_push_of_some _ (k1 b u e))
  have hpv : ∀ v ∈ vs, Srt.IsPair (s1.heap.push (seqObj "list" vs.toArray 0)) v (keyOfA ks v).1 (keyOfA ks v).2 := fun v hv => by
    obtain ⟨q, hq, e⟩ := List.mem_map.mp (pm.mem_iff.mp hv)
    subst e
    rw [keyA_of hp q hq]
    exact hp q hq
  refine wpAny_bind (wpAny_holding (wpAny_call_entry slot_list_sort ⟨_, hoL, rfl⟩ entry_list_sort (SrtO.list_sort_ord (SrtO.swo_lex (keyOfA ks)) hoL hzl (fun h2 => SrtO.pairs_sortableO (by omega) hpv fun o e => ?_) fun out hs hb => ⟨_, rfl, ?_⟩) (args_list_sort _)))
  · have e' := hoL.symm.trans e
    cases e'
    show Value.type "list" ≠ Value.type "tuple"
    decide
  obtain ⟨c, hc⟩ := sortedHeap_at (vs := vs) (out := out.toArray) hoL
  obtain ⟨L', e', pL, pw⟩ := prs_back hp pm hb.perm hs
  refine wpAny_pure ⟨_, rfl, hQ _ s1.heap.objs.size out.toArray c L' (fun b u e => ?_) g1 o1 hz hc (by simpa using e') pL pw⟩
  have q := k1 b u e
  have hlt := Heap.lt_size q
  show (sortedHeap (s1.heap.push (seqObj "list" vs.toArray 0)) s1.heap.objs.size vs out.toArray).get? b = some u
  rw [sortedHeap_old (Nat.ne_of_lt hlt) (by rw [size_push']; exact Nat.lt_succ_of_lt hlt)]
  exact Heap.get?_push_of_some _ q
end

/-! ### as rules -/
abbrev kR (q : Addr × (Int × Int)) : V := .ref q.1
abbrev kT (q : Addr × (Int × Int)) : Addr × List Int := (q.1, [q.2.1, q.2.2])
def PrsAt (K : PySem.W.Frag) (H : Hp) (ks : Prs) : Prop := ∀ q ∈ ks, SqT K H q.1 [.int q.2.1, .int q.2.2]
theorem map_pre {α β : Type} {f : α → β} {ks : List α} : ∀ L : List β, (∀ p ∈ L, p ∈ ks.map f) → ∃ L2 : List α, L = L2.map f ∧ ∀ q ∈ L2, q ∈ ks
  | [], _ => ⟨[], rfl, fun q hq => (by cases hq)⟩
  | b :: L, h => by
    obtain ⟨q, hq, e⟩ := List.mem_map.mp (h b List.mem_cons_self)
    obtain ⟨L2, e2, h2⟩ := map_pre L fun p hp => h p (List.mem_cons_of_mem _ hp)
    refine ⟨q :: L2, by rw [List.map_cons, e, e2], fun r hr => ?_⟩
    rcases List.mem_cons.mp hr with z | z
    · rw [z]; exact hq
    · exact h2 r z
/-- set(xs): ints, or pairs of ints; fewer than 64 -/
def rSetI (K : PySem.W.Frag) (w : World) : List V → Hp → VK → Prop := fun xs H Q => ∃ (l : Addr) (ns : List Int), xs = [V.ref l] ∧ (SqL K H l (ns.map V.int) ∨ SqT K H l (ns.map V.int)) ∧ ns.length < 64 ∧
  ∀ a c, H a = none → c ≤ ns.length → Q (.ref a) (upd H a (SetO w a (fun j => decide (j ∈ ns)) c))
def rSetP (K : PySem.W.Frag) (P : Program) (w : World) : List V → Hp → VK → Prop := fun xs H Q => ∃ (l : Addr) (ks : Prs), xs = [V.ref l] ∧ (SqL K H l (ks.map kR) ∨ SqT K H l (ks.map kR)) ∧ PrsAt K H ks ∧ ks.length < 64 ∧
  ∀ a (L : Prs), H a = none → (∀ p ∈ L, p ∈ ks) → (∀ p ∈ ks, p.2 ∈ L.map (·.2)) → (L.map (·.2)).Nodup → Q (.ref a) (upd H a (SetTO P w a (L.map kT)))
def rSortedSP (K : PySem.W.Frag) (P : Program) (w : World) : List V → Hp → VK → Prop := fun vs H Q => ∃ (a : Addr) (ks : Prs), vs = [V.ref a] ∧ H a = some (SetTO P w a (ks.map kT)) ∧ PrsAt K H ks ∧
  ∀ (L' : Prs) (p : Addr), L'.Perm ks → L'.Pairwise (fun q r => leP q.2 r.2 = true) → H p = none → Q (.ref p) (upd H p (.lst (L'.map kR)))
def rSortedLP (K : PySem.W.Frag) : List V → Hp → VK → Prop := fun vs H Q => ∃ (a : Addr) (ks : Prs), vs = [V.ref a] ∧ SqL K H a (ks.map kR) ∧ PrsAt K H ks ∧
  ∀ (L' : Prs) (p : Addr), L'.Perm ks → L'.Pairwise (fun q r => leP q.2 r.2 = true) → H p = none → Q (.ref p) (upd H p (.lst (L'.map kR)))
section
variable {X : Cx}
theorem refs_kR : ∀ {ks : Prs} {us : List Value}, Vals (ks.map kR) us → us = ks.map fun p => Value.ref p.1
  | [], _, .nil => rfl
  | p :: ks, _, .cons r t => by
    cases r
    rw [refs_kR t] <;> rfl
theorem vals_kR : ∀ (ks : Prs), Vals (ks.map kR) (ks.map fun p => Value.ref p.1)
  | [] => .nil
  | p :: ks => .cons rfl (vals_kR ks)
theorem PrsAt.pair {pins : List (Addr × Obj)} {σ : L2.St} {H : Hp} {s : Shared} {ks : Prs} (I : Inv X pins σ H s) (h : PrsAt X.K H ks) : ∀ q ∈ ks, IsT X.prog X.w s.heap [q.2.1, q.2.2] q.1 := fun q hq => I.isT (k := [q.2.1, q.2.2]) (h q hq)
theorem cr_setI (hc : X.calm = true) : CallR X (.type "set") (rSetI X.K X.w) := by
  intro pins s σ H xs us Q I r h
  obtain ⟨l, ns, rfl, hl, hf, q⟩ := h
  rw [Vals.ref1 r]
  have hn : H s.heap.objs.size = none := I.hok.fresh (Nat.le_refl _)
  have fin : ∀ (h' : Heap) (tk c : Nat), SetR X.w h' s.heap.objs.size (fun j => decide (j ∈ ns)) c → c ≤ ns.length → (∀ b o, s.heap.get? b = some o → h'.get? b = some o) → EP X pins σ Q (.ref s.heap.objs.size) { s with heap := h', toks := tk } := fun h' tk c R hcl k =>
    ⟨.ref s.heap.objs.size, upd H s.heap.objs.size (SetO X.w s.heap.objs.size (fun j => decide (j ∈ ns)) c), I.laid (t' := tk) k (Nat.le_refl _) (setO_new R), rfl, q _ c hn hcl⟩
  rcases hl with hl | hl
  · obtain ⟨its, rv, pl, hz⟩ := I.list hl
    exact call_set_lstI ns (I.ok.hd hc) pl.isList (by simpa using intsAre_of rv) (by unfold scanBound; omega) fin
  · obtain ⟨its, rv, pl, hz⟩ := I.tuple hl
    exact call_set_tupI ns (I.ok.hd hc) pl (by simpa using intsAre_of rv) (by unfold scanBound; omega) fin
theorem cr_setP (hc : X.calm = true) (hu : X.A.units + 64 < cLine) : CallR X (.type "set") (rSetP X.K X.prog X.w) := by
  intro pins s σ H xs us Q I r h
  obtain ⟨l, ks, rfl, hl, hk, hf, q⟩ := h
  rw [Vals.ref1 r]
  have hn : H s.heap.objs.size = none := I.hok.fresh (Nat.le_refl _)
  have hkT : ∀ p ∈ ks.map kT, IsT X.prog X.w s.heap p.2 p.1 := fun p hp => by
    obtain ⟨q, hq, e⟩ := List.mem_map.mp hp
    subst e
    exact hk.pair I q hq
  have fin : ∀ (h' : Heap) (tk : Nat) L es ep t, SetTR X.prog X.w h' s.heap.objs.size L es ep t → Got (ks.map kT) (ks.map kT).length L → (∀ b o, s.heap.get? b = some o → h'.get? b = some o) → EP X pins σ Q (.ref s.heap.objs.size) { s with heap := h', toks := tk } := fun h' tk L es ep t R g k => by
    obtain ⟨L2, e2, h2⟩ := map_pre L fun p hp => List.mem_of_mem_take (g.sub p hp)
    subst e2
    refine ⟨.ref s.heap.objs.size, upd H s.heap.objs.size (SetTO X.prog X.w s.heap.objs.size (L2.map kT)), I.laid (t' := tk) k (Nat.le_refl _) (setTO_new R.t0), rfl, q _ L2 hn h2 (fun p hp => ?_) ?_⟩
    · have z := g.all (kT p) (by rw [List.take_length]; exact List.mem_map.mpr ⟨p, hp, rfl⟩)
      rw [List.map_map] at z
      obtain ⟨r, hr, e⟩ := List.mem_map.mp z
      refine List.mem_map.mpr ⟨r, hr, ?_⟩
      have e' : [r.2.1, r.2.2] = [p.2.1, p.2.2] := e
      injection e' with e1 e2
      injection e2 with e2
      exact Prod.ext e1 e2
    · have z := R.nd
      rw [List.map_map] at z
      have e : (L2.map (·.2)).map (fun p : Int × Int => [p.1, p.2]) = L2.map ((·.2) ∘ kT) := by rw [List.map_map] <;> rfl
      rw [← e] at z
      exact nodup_of_map z
  have lf : (ks.map kT).length < 64 := by rw [List.length_map]; exact hf
  have ev : ∀ its : List Value, Vals (ks.map kR) its → its = (ks.map kT).map fun p => Value.ref p.1 := fun its rv => by
    rw [refs_kR rv, List.map_map] <;> rfl
  rcases hl with hl | hl
  · obtain ⟨its, rv, pl, hz⟩ := I.list hl
    exact call_set_tups (P := X.prog) (w := X.w) (ks.map kT) (I.ok.hd hc) pl.isList (by simpa using ev its rv) hkT lf (by omega) fin
  · obtain ⟨its, rv, pl, hz⟩ := I.tuple hl
    exact call_set_tupsT (P := X.prog) (w := X.w) (ks.map kT) (I.ok.hd hc) pl (by simpa using ev its rv) hkT lf (by omega) fin
theorem cr_sortedSP (hc : X.calm = true) : CallR X (.builtin "sorted") (rSortedSP X.K X.prog X.w) := by
  intro pins s σ H vs us Q I r h
  obtain ⟨a, ks, rfl, ha, hk, q⟩ := h
  have R0 : SetT0 X.prog X.w s.heap a (ks.map kT) := (I.hok a _ ha).1
  obtain ⟨es, ep, t, R⟩ := R0.full fun p hp => by
    obtain ⟨q, hq, e⟩ := List.mem_map.mp hp
    subst e
    exact hk.pair I q hq
  rw [Vals.ref1 r]
  refine sorted_setP R (I.ok.hd hc) ks rfl fun s' p out c L' k g o hp hg hout pm pw => ?_
  have hfew : L'.length < 64 := by have z := R.few; rw [List.length_map] at z; rw [pm.length_eq]; exact z
  have hlen : (L'.map kR).length ≤ sizeLine := by rw [List.length_map, sizeLine_eq]; omega
  have hn : H p = none := I.hok.fresh hp
  have hv : Vals (L'.map kR) out.toList := by rw [hout]; exact vals_kR L'
  have J : Inv X pins σ (upd H p (.lst (L'.map kR))) { s with heap := s'.heap, gens := s'.gens, drawn := s'.drawn, toks := s'.toks } :=
    I.call (ch := []) (Un.laid k hp hn) (I.hok.laid k hp ⟨hlen, out.toList, c, hv, hg⟩) (by rw [g]; exact I.bare) (fun _ z => nomatch z)
  have e : s' = { s with heap := s'.heap, gens := s'.gens, drawn := s'.drawn, toks := s'.toks } := by
    cases s'
    cases s
    cases o
    rfl
  rw [e]
  exact ⟨.ref p, _, J, rfl, q L' p pm pw hn⟩
theorem cr_sortedLP : CallR X (.builtin "sorted") (rSortedLP X.K) := by
  intro pins s σ H vs us Q I r h
  obtain ⟨a, ks, rfl, hs, hk, q⟩ := h
  obtain ⟨its, rv, hl, hz⟩ := I.list hs
  rw [Vals.ref1 r]
  have ei := refs_kR rv
  subst ei
  have hp : ∀ q ∈ ks, Srt.IsPair s.heap (.ref q.1) q.2.1 q.2.2 := fun q hq => isPair_of (P := X.prog) (w := X.w) (hk.pair I q hq)
  refine SrtO.sorted_pairsO (k := keyOfA ks) hl.isList (by rw [← rv.length]; exact hz) (fun v hv => ?_) fun h' d out h1 h2 kp hd hn => ?_
  · obtain ⟨q, hq, e⟩ := List.mem_map.mp hv
    subst e
    rw [keyA_of hp q hq]
    exact hp q hq
  · obtain ⟨n, hn⟩ := hn
    obtain ⟨L', e', pL, pw⟩ := prs_back hp (.refl _) h2.perm h1
    subst e'
    refine ⟨.ref d, upd H d (.lst (L'.map kR)), I.laid (t' := s.toks) kp hd ⟨?_, _, n, vals_kR L', hn⟩, rfl, q L' d pL pw (I.hok.fresh hd)⟩
    rw [List.length_map, pL.length_eq]
    rw [List.length_map] at hz
    exact hz
end

/-! ### the small Python's sorted and different -/
section
variable {K : Kc} {g : Gh} {n : Nat} {H : Hp}
theorem prs_rep : ∀ {es : List D} {ps : List (Int × Int)} {vs : List V}, prsD es = some ps → Reps K g n H es vs → ∃ ks : Prs, vs = ks.map kR ∧ ks.map (·.2) = ps ∧ ∀ q ∈ ks, Rep K g n H (prD q.2) (.ref q.1)
  | [], ps, _, e, h => by cases e; cases h; exact ⟨[], rfl, rfl, fun q hq => (by cases hq)⟩
  | d :: es, ps, _, e, ⟨v, r, e2, h, t⟩ => by
    subst e2
    have e' : ∃ a b qs, d = .tup [.int a, .int b] ∧ prsD es = some qs ∧ ps = (a, b) :: qs := by
      unfold prsD at e
      split at e
      · rename_i heq; cases heq
      · rename_i heq
        injection heq with h1 h2
        subst h1 h2
        obtain ⟨qs, e1, e2⟩ := Option.map_eq_some_iff.mp e
        exact ⟨_, _, qs, rfl, e1, e2.symm⟩
      · cases e
    obtain ⟨a, b, qs, rfl, e1, rfl⟩ := e'
    obtain ⟨ks, e3, e4, h4⟩ := prs_rep e1 t
    obtain ⟨p, ws, e5, h5, r5⟩ := h
    subst e5
    refine ⟨(p, (a, b)) :: ks, by rw [e3] <;> rfl, by rw [List.map_cons, e4], fun q hq => ?_⟩
    rcases List.mem_cons.mp hq with z | z
    · subst z; exact ⟨p, ws, rfl, h5, r5⟩
    · exact h4 q z
theorem prD_sq {a : Addr} {p : Int × Int} (h : Rep K g n H (prD p) (.ref a)) : SqT K.K H a [.int p.1, .int p.2] := by
  obtain ⟨a', ws, e, h1, v, r, e2, h2, v2, r2, e3, h3, h4⟩ := h
  cases e
  cases h4
  subst e3
  cases (show v = V.int p.1 from h2)
  cases (show v2 = V.int p.2 from h3)
  subst e2
  exact h1.sq
theorem reps_prs : ∀ {ks : Prs}, (∀ q ∈ ks, Rep K g n H (prD q.2) (.ref q.1)) → Reps K g n H ((ks.map (·.2)).map prD) (ks.map kR)
  | [], _ => rfl
  | q :: ks, h => ⟨_, _, rfl, h q List.mem_cons_self, reps_prs fun r hr => h r (List.mem_cons_of_mem _ hr)⟩
end
section
variable {K : Kc} {s : L2.St} {H : Hp} {Q : VK} {m : Bool}
theorem prs_sorted {ks L : Prs} {ps : List (Int × Int)} (pm : L.Perm ks) (pw : L.Pairwise (fun q r => leP q.2 r.2 = true)) (e : ks.map (·.2) = ps) : L.map (·.2) = sortP ps := by
  refine sortP_one ?_ (List.pairwise_map.mpr pw)
  rw [← e]
  exact pm.map _
theorem post_sorted {vs : List V} (h : OpPost K s .sorted m vs H Q) : rSortedI K.K vs H Q ∨ rSortedLP K.K vs H Q := by
  obtain ⟨g, st, ds, Qd, A, r, w, hq⟩ := h
  obtain ⟨a, rfl, es, out, rfl, e, q⟩ := any1_inv (show any1 ds (fun a => sortW a Qd) from w)
  obtain ⟨x, e2, r1⟩ := r.to1
  subst e2
  obtain ⟨p, ws, rfl, h1, t1⟩ := r1
  unfold sortD at e
  cases ei : intsD es with
  | some ns =>
    rw [ei] at e
    cases e
    have ew := ints_rep ei t1
    subst ew
    refine .inl ⟨p, ns, rfl, .inl (.inl h1), fun ns' l pm pw hl => ?_⟩
    rw [sortI_one pm pw]
    exact new_lst A hq q (Reps.ints _) hl
  | none =>
    rw [ei] at e
    obtain ⟨ps, e3, e4⟩ := Option.map_eq_some_iff.mp e
    obtain ⟨ks, rfl, e5, h5⟩ := prs_rep e3 t1
    refine .inr ⟨p, ks, rfl, .inl (.inl h1), fun q hq => prD_sq (h5 q hq), fun L' l pm pw hl => ?_⟩
    refine new_lst A hq (ds := (L'.map (·.2)).map prD) ?_ (reps_prs fun q hq => h5 q (pm.mem_iff.mp hq)) hl
    rw [prs_sorted pm pw e5, e4]
    exact q
/-- behind set and sorted: a new list of the different ones -/
theorem post_diff0 {P : Program} {w : World} {tp : Bool} {vs : List V} {R : VK} (h : OpPost K s (.diff tp) m vs H Q)
    (k : ∀ g st (Qd : D → Prop) out ws H2 p, Abs K g st s H2 → Qd (if tp = true then .tup out else .lst out) → (∀ d v g' H', Qd d → Ext g st.h.length H2 g' st.h.length H' → Abs K g' st s H' → RepM K g' st s H' m d v → Q v H') → Reps K g st.h.length H2 out ws → H2 p = none → R (.ref p) (upd H2 p (.lst ws))) :
    (rSetI K.K w vs H fun v1 H1 => rSortedSet w [v1] H1 R) ∨ (rSetP K.K P w vs H fun v1 H1 => rSortedSP K.K P w [v1] H1 R) := by
  obtain ⟨g, st, ds, Qd, A, r, w0, hq⟩ := h
  obtain ⟨a, rfl, es, out, ea, hl, e, q⟩ := any1_inv (show any1 ds (fun a => diffW tp a Qd) from w0)
  obtain ⟨x, e2, r1⟩ := r.to1
  subst e2
  have sq : ∃ p ws, x = .ref p ∧ (SqL K.K H p ws ∨ SqT K.K H p ws) ∧ Reps K g st.h.length H es ws := by
    cases a with
    | lst ds => cases ea; obtain ⟨p, ws, e1, hs, t1⟩ := r1; exact ⟨p, ws, e1, .inl (SqL.of hs), t1⟩
    | tup ds => cases ea; obtain ⟨p, ws, e1, hs, t1⟩ := r1; exact ⟨p, ws, e1, .inr hs.sq, t1⟩
    | scr ds => cases ea; obtain ⟨p, ws, e1, hs, t1⟩ := r1; exact ⟨p, ws, e1, .inl hs.sq, t1⟩
    | _ => cases ea
  obtain ⟨p, ws, rfl, hs, t1⟩ := sq
  unfold diffD at e
  cases ei : intsD es with
  | some ns =>
    rw [ei] at e
    cases e
    have ew := ints_rep ei t1
    subst ew
    have ln : ns.length = es.length := by have z := t1.length; rw [List.length_map] at z; exact z
    refine .inl ⟨p, ns, rfl, hs, by omega, fun b c hb hc => ⟨b, _, c, rfl, upd_same, by omega, fun ns' l pw hm _ hl' => ?_⟩⟩
    obtain ⟨A', x⟩ := A.alloc hb (SetO w b (fun j => decide (j ∈ ns)) c)
    have en : ns' = sortI (onceL ns) := by
      refine sortI_one (onceL_perm (pw.imp fun h => by omega) fun k => ?_) (pw.imp fun h => by omega)
      rw [hm k, decide_eq_true_eq]
    rw [en]
    exact k g st Qd _ _ _ l A' q (fun d v g' H' q x2 A2 r2 => hq _ _ _ _ q (x.trans x2) A2 r2) (Reps.ints _) hl'
  | none =>
    rw [ei] at e
    obtain ⟨ps, e3, e4⟩ := Option.map_eq_some_iff.mp e
    obtain ⟨ks, rfl, e5, h5⟩ := prs_rep e3 t1
    have ln : ks.length = es.length := by have z := t1.length; rw [List.length_map] at z; exact z
    refine .inr ⟨p, ks, rfl, hs, fun q hq => prD_sq (h5 q hq), by omega, fun b L hb h1 h2 hnd => ?_⟩
    obtain ⟨A', x⟩ := A.alloc hb (SetTO P w b (L.map kT))
    have kp := x.kp A.mw
    refine ⟨b, L, rfl, upd_same, fun q hq => prD_sq ((h5 q (h1 q hq)).kp kp), fun L' l pm pw hl' => ?_⟩
    have en : L'.map (·.2) = sortP (onceL ps) := by
      refine sortP_one ((pm.map _).trans (onceL_perm hnd fun k => ?_)) (List.pairwise_map.mpr pw)
      rw [← e5]
      refine ⟨fun z => ?_, fun z => ?_⟩
      · obtain ⟨q, hq, e⟩ := List.mem_map.mp z
        exact List.mem_map.mpr ⟨q, h1 q hq, e⟩
      · obtain ⟨q, hq, e⟩ := List.mem_map.mp z
        rw [← e]
        exact h2 q hq
    refine k g st Qd ((L'.map (·.2)).map prD) _ _ l A' ?_ (fun d v g' H' q x2 A2 r2 => hq _ _ _ _ q (x.trans x2) A2 r2) (reps_prs fun q hq => (h5 q (h1 q (pm.mem_iff.mp hq))).kp kp) hl'
    rw [en, e4]
    exact q
end
end Mp
namespace Mp
open PySem PySem.Spec L2
/-! ### o == e, both of one own class -/
section
variable {X : Cx} {ER : ExT} {Wx : WX} {C : Calls} {k np c f : Nat} {fx : Addr} {fd : FuncData} {ps : List Str} {r r2 : Ex} {o e : Expr} {pos : Pos}
theorem rd_eq2 {kk : MK} {σ : L2.St} {H : Hp} {Q : VK} {dv : D → V} (hk : isEqM kk = true) (hE : ExOk ER) (h : rdE (kz X) ER Wx (wE C (.meth kk c f [r, r2] [.inl 0, .inl 1])) false σ H Q) :
    rdE (kz X) ER Wx (wE C r) false σ H fun x H1 => rdE (kz X) ER Wx (wE C r2) false σ H1 fun y H2 => (∃ a ws, x = .ref a ∧ ObR (kz X) H2 a c ws) ∧ (∃ (g' : Gh) (n' : Nat) (d' : D), eqR c d' = true ∧ Vw (kz X) g' n' H2 d' y) ∧ spF (kz X) ER C false f 2 [x, y] H2 (fun v H3 => methV kk v H3 Q) (WE Wx σ) := by
  have h1 := rdE_meth (ar := [.inl 0, .inl 1]) (ts := [r2]) (np := 2) (dv := dv) hE (fun d hd => by simp at hd) rfl rfl h
  refine rdE_mono h1 fun x H1 ⟨_, q⟩ => ?_
  obtain ⟨g, st, Qd, Xd, A, w, hq, hx⟩ := q
  have w' : wE C r2 st (fun d st1 => Qd [d] st1) Xd := by simpa only [wL] using w
  refine ⟨g, st, _, Xd, A, w', fun d st1 v g1 H2 w1 x1 A1 r1 => ?_, hx⟩
  obtain ⟨_, z2, _, z3⟩ := hq [d] st1 [v] g1 H2 w1 x1 A1 ⟨v, [], rfl, r1, rfl⟩ rfl
  obtain ⟨za, zb⟩ := z2 hk
  exact ⟨za, zb, spF_E (fun _ _ _ z => z.2) z3⟩
/-- what == looks at first -/
theorem looks_of {pins : List (Addr × Obj)} {σ : L2.St} {H : Hp} {s : Shared} {y : V} {u : Value} {g : Gh} {n : Nat} {d : D} (kit : KitB X.K = true) (hkn : isKnown X.K c = true) (hd : eqR c d = true) (r : Vw (kz X) g n H d y) (I : Inv X pins σ H s) (ru : RelV y u) :
    ∃ tb, PySem.W.Looks (model X.prog X.w) s.heap (typeOf u) tb ∧ PySem.W.notFirst X.K (CL (kz X) c) tb = true := by
  by_cases ho : ∃ k ds, d = .obj k ds
  · obtain ⟨k, ds, rfl⟩ := ho
    have e : k = c := by simpa [eqR] using hd
    subst e
    obtain ⟨a, vs, rfl, ⟨_, _, dx, ea⟩, _⟩ := r
    obtain rfl : u = Value.ref a := ru
    obtain ⟨od, J⟩ := inst_of I ea
    exact ⟨_, J.type, by simp [PySem.W.notFirst]⟩
  · have no : ∀ k ds, d ≠ .obj k ds := fun k ds e => ho ⟨k, ds, e⟩
    have ok : tyOk d = true := by cases d <;> first | exact hd | exact absurd rfl (no _ _)
    obtain ⟨P, kx, hP, _⟩ := kit_of I ru (r.ty ok no)
    refine ⟨_, kx.ty _ _ I.kIn hP, ?_⟩
    have key : ∀ t : String, t ∈ (["NoneType", "bool", "int", "str", "tuple", "list", "dict"] : List String) → ∀ a : Addr, PySem.W.notFirst X.K a (.type t) = true := by
      intro t ht a
      simp only [List.mem_cons, List.not_mem_nil, or_false] at ht
      rcases ht with rfl | rfl | rfl | rfl | rfl | rfl | rfl <;> rfl
    exact key _ (dTy_mem ok no) _
theorem se_eqO (hcalm : X.calm = true) (kit : KitB X.K = true) (hkn : isKnown X.K c = true) (hD : Dun X.K c "__eq__" fx) (F : FnG X.prog X.w X.K X.mg X.base (L2.CX X.prog X.w) k fx fd ps (spF ⟨X.K, none⟩ ER C false f 2)) (hr : RoomG k X.A) (hs : Shp X.K fd ps 2 [] [.inl 0, .inl 1]) (tk : Takes X Wx) (hE : ExOk ER)
    (ho : SE X ER Wx C o r false) (he : SE X ER Wx C e r2 false) (hm : behindInMarks .Eq e = false) : SE X ER Wx C (.Compare o [.Eq] [e] pos) (.meth .eq c f [r, r2] [.inl 0, .inl 1]) false ∧ ST X ER Wx C (.Compare o [.Eq] [e] pos) (.tb (.meth .eq c f [r, r2] [.inl 0, .inl 1])) := by
  rw [show (⟨X.K, none⟩ : Kc) = kz X by rw [kz_calm hcalm]] at F
  obtain ⟨gg, gV, dv, hbn, hdv, hgV⟩ := hs.ex
  refine both_se (cmp_both (fun pins σ v u s2 x y H2 Q I2 rx ry ⟨⟨a, ws, ex, ⟨_, _, dx, ea⟩⟩, ⟨g', n', d', hd', vy⟩, q⟩ => ?_) ho he hm fun σ H Q h => rd_eq2 (dv := dv) rfl hE h)
  subst ex
  obtain rfl : v = Value.ref a := rx
  obtain ⟨od, J⟩ := inst_of I2 ea
  obtain ⟨mm, fr⟩ := I2.fr
  obtain ⟨tb, hb, hn⟩ := looks_of kit hkn hd' vy I2 ry
  show wpAny (model X.prog X.w) X.A (richCompare .Eq (.ref a) u) _ _ _
  have q3 : spF (kz X) ER C false f 2 (gV [.ref a, y] []) H2 (fun v H3 => methV .eq v H3 Q) (WE Wx σ) := by rw [hgV [.ref a, y] [] rfl rfl]; exact q
  have rc := run_call (ks := []) (zs := []) (ws := []) (vs := [.ref a, y]) (us := [.ref a, u]) F hr hbn (passAt tk σ) I2 (.cons rfl (.cons ry .nil)) .nil rfl rfl q3
  refine PySem.W.cmp_K (op := .Eq) (tb := tb) hr.units0 fr I2.ok.mod.kin J hb hn hD.at_ hD.fn (thn rc fun u3 s3 ⟨y3, H3, I3, r3, bb, e3, q4⟩ => ?_)
  subst e3
  cases r3
  exact ⟨.bl bb, H3, I3, rfl, q4⟩
/-- str(o) -/
theorem se_strO {p : Pos} (hcalm : X.calm = true) (hD : Dun X.K c "__str__" fx) (F : FnG X.prog X.w X.K X.mg X.base (L2.CX X.prog X.w) k fx fd ps (spF ⟨X.K, none⟩ ER C false f np)) (hr : RoomG (k + 2) X.A) (hs : Shp X.K fd ps 1 [] [.inl 0]) (hnp : np = 1) (tk : Takes X Wx) (hE : ExOk ER) (ho : SE X ER Wx C o r false)
    (hg : Gl X "str") (hmg : X.mg "str" = none) (hst : notStar o = true) : SE X ER Wx C (.Call (.Name "str" p) [o] [] pos) (.meth .str c f [r] [.inl 0]) false := by
  rw [show (⟨X.K, none⟩ : Kc) = kz X by rw [kz_calm hcalm]] at F
  obtain ⟨gg, gV, dv, hbn, hdv, hgV⟩ := hs.ex
  refine ⟨fun pins s σ H Q I h => ?_⟩
  have h1 := rdE_meth (ar := [.inl 0]) (ts := []) (np := np) (dv := dv) hE hdv rfl hnp.symm h
  refine wpAny_Call_Name_kw (ld_blt I hg hmg (show bootBuiltins "str" = some (.type "str") by decide +kernel) ?_ (by decide) (by decide))
  have pa : ∀ R : V → Hp → Prop, rdE (kz X) ER Wx (wE C r) false σ H R → wpAny (model X.prog X.w) X.A (spliced (backTo pos (starEach [o] X.env))) (fun us s1 => ∃ x H1 u, us = [u] ∧ Inv X pins σ H1 s1 ∧ RelV x u ∧ R x H1) X.xe s := fun R hR =>
    thn ((pa_cons ho pa_nil (star_of hst _ _)).run pos pins s σ H (fun vs H1 => ∃ x, vs = [x] ∧ R x H1) I (rdE_mono hR fun x H1 q => ⟨x, rfl, q⟩)) fun us s1 ⟨vs, H1, I1, rv, x, e, q⟩ => by
      subst e
      obtain ⟨u, rfl, rx⟩ := vals1 rv
      exact ⟨x, H1, u, rfl, I1, rx, q⟩
  refine PyProof.Rows.callWith_type1 (thn (pa _ h1) fun us s1 ⟨x, H1, u, eu, I1, rx, q0, q1⟩ => ?_) (star_of hst _ _) rfl
  subst eu
  obtain ⟨a, vs0, rfl, _, _, dx, ea⟩ := q0 rfl
  obtain rfl : u = Value.ref a := rx
  obtain ⟨od, J⟩ := inst_of I1 ea
  obtain ⟨_, _, _, q2⟩ := splitL_nil q1
  have q3 : spF (kz X) ER C false f np (gV [.ref a] []) H1 (fun v H3 => methV .str v H3 Q) (WE Wx σ) := by rw [hgV [.ref a] [] rfl rfl]; exact spF_E (fun _ _ _ z => z.2) q2
  have run := F.run X.A.in1.in1 X.stack s1 H1 ⟨[.ref a], []⟩ (gg [.ref a] []) (gV [.ref a] []) _ _ hr.in1.in1 I1.env0.in1.in1 (hbn.to s1 [.ref a] [] I1.kIn rfl rfl) (hbn.rel (.cons rfl .nil) .nil) q3
  have rc : wpAny (model X.prog X.w) X.A.in1.in1 (call (.ref fx) [.ref a]) (EP X pins σ fun v H3 => methV .str v H3 Q) X.xe s1 := wpAny_call (codeAny_mono run fun res s' back => by
    match res, back with
    | .error e, back => exact passAt tk σ pins H1 s1 e s' I1 back
    | .ok (.ret u), back => exact I1.after back)
  refine PySem.W.kso_call hr.in1.in1.units0 I1.kIn J hD.at_ hD.fn (thn rc fun u3 s3 ⟨y3, H3, I3, r3, b, e3, q3⟩ => ?_)
  subst e3
  obtain ⟨t3, rfl⟩ := r3
  exact ⟨.str b, H3, I3, ⟨_, rfl⟩, q3⟩
/-- o.f, a property -/
theorem se_propO {x : Str} {pr : Addr} (hcalm : X.calm = true) (kit : KitB X.K = true) (hkn : isKnown X.K c = true) (hP : PropOf X.K (He.ga X.K (clsN c)) x pr fx) (F : FnG X.prog X.w X.K X.mg X.base (L2.CX X.prog X.w) k fx fd ps (spF ⟨X.K, none⟩ ER C false f 1)) (hr : RoomG (k + 1) X.A) (hb : Binds X.K fd ps []) (hE : ExOk ER)
    (ho : SE X ER Wx C o r false) (hbo : baseOk o = true) : SE X ER Wx C (.Attribute o x pos) (.meth .prop c f [r] [.inl 0]) false := by
  rw [show (⟨X.K, none⟩ : Kc) = kz X by rw [kz_calm hcalm]] at F
  obtain ⟨k0, _⟩ := KitB.at kit hkn
  obtain ⟨cl, _⟩ := clsB_ok k0
  have none_ : Passes (L2.CX X.prog X.w) X.nox (fun _ _ _ => False) := fun pins σ H s e s' I z => by
    obtain ⟨_, _, _, _, _, _, _, _, _, _, _, _, w⟩ := z
    exact w.elim
  refine peImp (pe_propG (dvs := []) ho cl hP F hr hb .nil none_ (base_of hbo _ _ _)) fun σ H Q h => ?_
  have h1 := rdE_meth (ar := [.inl 0]) (ts := []) (np := 1) (dv := fun _ => .non) hE (fun d hd => by simp at hd) rfl rfl h
  refine rdE_mono h1 fun y H1 ⟨q0, q1⟩ => ?_
  obtain ⟨a, ws, rfl, _, _, dx, ea⟩ := q0 rfl
  obtain ⟨_, _, _, q2⟩ := splitL_nil q1
  exact ⟨a, dx, _, rfl, ea, spF_E (fun _ _ _ z => by cases z.1) q2⟩
end
end Mp
namespace Mp
open PySem PySem.Spec L2
/-! ### zip of two, each a list or a tuple; any target -/
def ItA (k : Bool) (h : Heap) (it l : Addr) (i : Nat) : Prop := if k = true then h.IsTupleIter it l i else h.IsListIter it l i
def CoA (k : Bool) (h : Heap) (l : Addr) (xs : Array Value) : Prop := if k = true then h.IsTuple l xs else h.IsList l xs
def SqA (k : Bool) (K : PySem.W.Frag) (H : Hp) (a : Addr) (xs : List V) : Prop := if k = true then SqT K H a xs else SqL K H a xs
theorem ItA.ob {k : Bool} {h : Heap} {it l : Addr} {i : Nat} (q : ItA k h it l i) : ∃ o, h.get? it = some o ∧ ∀ v, o.data ≠ .cell v := by
  cases k with
  | true => obtain ⟨o, e, _, d⟩ := (q : h.IsTupleIter it l i); exact ⟨o, e, fun v z => by rw [d] at z; cases z⟩
  | false => obtain ⟨o, e, _, d⟩ := (q : h.IsListIter it l i); exact ⟨o, e, fun v z => by rw [d] at z; cases z⟩
theorem ItA.to {k : Bool} {h h' : Heap} {it l : Addr} {i : Nat} (q : ItA k h it l i) (e : ∀ o, h.get? it = some o → h'.get? it = some o) : ItA k h' it l i := by
  cases k with
  | true => exact Heap.IsTupleIter.at (show h.IsTupleIter it l i from q) e
  | false => exact Heap.IsListIter.at (show h.IsListIter it l i from q) e
theorem CoA.to {k : Bool} {h h' : Heap} {l : Addr} {xs : Array Value} (q : CoA k h l xs) (e : ∀ o, h.get? l = some o → h'.get? l = some o) : CoA k h' l xs := by
  cases k with
  | true => obtain ⟨o, a, b⟩ := (q : h.IsTuple l xs); exact ⟨o, e o a, b⟩
  | false => obtain ⟨o, a, b⟩ := (q : h.IsList l xs); exact ⟨o, e o a, b⟩
section
variable {prog : Program} {w : World} {A : Around} {E : Value → Shared → Prop} {s : Shared}
theorem nxA_item {k : Bool} {it l : Addr} {i : Nat} {xs : Array Value} {x : Value} {Q : Value → Shared → Prop} (a : ItA k s.heap it l i) (b : CoA k s.heap l xs) (hx : xs[i]? = some x)
    (q : ∀ h', ItA k h' it l (i + 1) → Heap.SameBut it s.heap h' → Q x { s with heap := h' }) : wpAny (model prog w) A (Builtin.SmallTypes.nextOf (.ref it)) Q E s := by
  cases k with
  | true => exact RZ.nextOf_tuple_item a b hx q
  | false => exact wpAny_nextOf_list_item a b hx q
theorem nxA_end {k : Bool} {it l : Addr} {i : Nat} {xs : Array Value} {Q : Value → Shared → Prop} (hh : A.handled = none) (a : ItA k s.heap it l i) (b : CoA k s.heap l xs) (hx : xs[i]? = none)
    (q : ∀ h' e, Heap.ExtBut it s.heap h' → (∃ o, h'.get? e = some o ∧ o.cls = .type "StopIteration") → E (.ref e) { s with heap := h' }) : wpAny (model prog w) A (Builtin.SmallTypes.nextOf (.ref it)) Q E s := by
  cases k with
  | true => exact RZ.nextOf_tuple_end hh a b hx q
  | false => exact wpAny_nextOf_list_end hh a b hx q
/-- a zip object: f the tuple that is out -/
abbrev ZSt (h : Heap) (z TI TO : Addr) (f : Value) (b : Bool) : Prop := h.get? z = some { cls := .type "zip", dict := none, data := .fields #[f, .bool b, .bool false, .ref TI, .ref TO], slots := #[] }
def ZF (f : Value) : Prop := f = .none ∨ ∃ T : Addr, f = rawInt T
theorem alive_any {T : Addr} {Q : Option Obj → Shared → Prop} (q : Q (s.heap.get? T) s) : wpAny (model prog w) A (loadIfAlive T) Q E s := fun _ _ _ => q
theorem zs_free {z TI TO : Addr} {f : Value} {b : Bool} {Q : Bool → Shared → Prop} (hz : ZSt s.heap z TI TO f b) (hf : ZF f) (q1 : Q true s)
    (q2 : ∀ h', ZSt h' z TI TO f true → Heap.SameBut z s.heap h' → Q false { s with heap := h' }) : wpAny (model prog w) A (Builtin.SmallTypes.ownedTupleIsFree (.ref z)) Q E s := by
  unfold Builtin.SmallTypes.ownedTupleIsFree
  rcases hf with rfl | ⟨T, rfl⟩
  · exact wpAny_bind (wpAny_field hz rfl (x := .none) rfl (wpAny_pure q1))
  · refine wpAny_bind (wpAny_field hz rfl (x := rawInt T) rfl ?_)
    show wpAny (model prog w) A (loadIfAlive ((T : Int).toNat) >>= _) Q E s
    rw [Int.toNat_natCast]
    refine wpAny_bind (alive_any ?_)
    cases s.heap.get? T with
    | none => exact wpAny_pure q1
    | some o =>
      simp only [Option.isNone_some, Bool.false_eq_true, if_false]
      refine wpAny_bind (wpAny_field hz rfl (x := .bool b) rfl ?_)
      cases b with
      | true =>
        rw [if_neg (show ¬ ((Value.bool true != Value.bool true) = true) by simp)]
        exact wpAny_pure (q2 s.heap hz (Heap.SameBut.refl _ _))
      | false =>
        rw [if_pos (show (Value.bool false != Value.bool true) = true by rfl)]
        exact wpAny_bind (wpAny_setField_rec hz (by simp) fun g1 z1 e1 => wpAny_pure (q2 g1 z1 e1))
section
variable {k1 k2 : Bool} {z TI TO i1 i2 l1 l2 : Addr} {i : Nat} {xs ys : Array Value} {a b x y f : Value} {bb : Bool}
theorem zipA_item {Q : Value → Shared → Prop} (D : ZipApart z TI TO i1 i2 l1 l2) (hz : ZSt s.heap z TI TO f bb) (hf : ZF f) (hTI : IsPair s.heap TI (.ref i1) (.ref i2)) (hTO : IsPair s.heap TO a b) (h1 : ItA k1 s.heap i1 l1 i) (h2 : ItA k2 s.heap i2 l2 i) (c1 : CoA k1 s.heap l1 xs) (c2 : CoA k2 s.heap l2 ys)
    (hx : xs[i]? = some x) (hy : ys[i]? = some y) (hQ : ∀ h' f' b', ZSt h' z TI TO f' b' → ZF f' → (∃ p q, IsPair h' TO p q) → ItA k1 h' i1 l1 (i + 1) → ItA k2 h' i2 l2 (i + 1) → IsPair h' s.heap.objs.size x y →
      (∀ c o, c ≠ z → c ≠ TO → c ≠ i1 → c ≠ i2 → s.heap.get? c = some o → h'.get? c = some o) → Q (.ref s.heap.objs.size) { s with heap := h' }) :
    wpAny (model prog w) A (Builtin.«zip.__next__» ⟨[.ref z], []⟩) (fun r t => ∃ v, r = .done (.ret v) ∧ Q v t) E s := by
  refine wpAny_bind (m := field (.ref z) 2) (wpAny_field hz rfl (x := .bool false) rfl ?_)
  refine wpAny_bind (m := field (.ref z) 3) (wpAny_field hz rfl (x := .ref TI) rfl ?_)
  refine wpAny_bind (wpAny_seqItems hTI rfl (wpAny_bind (m := Builtin.SmallTypes.ownedTupleIsFree (.ref z)) (zs_free hz hf ?_ fun g0 z0 e0 => ?_)))
  · simp only [if_true]
    refine wpAny_bind (wpAny_rule (wpAny_bind (wpAny_field hz rfl (x := .ref TO) rfl (wpAny_bind (wpAny_setField_rec hz (by simp) fun g0 z0 e0 => ?_)))))
    replace z0 : ZSt g0 z TI TO .ellipsis bb := z0
    refine wpAny_bind ?_
    simp only [List.zipIdx_cons, List.zipIdx_nil, List.forIn_cons, List.forIn_nil]
    refine wpAny_bind (wpAny_bind (wpAny_onRaise (wpAny_bind (m := Builtin.SmallTypes.nextOf (.ref i1)) (nxA_item (s := { s with heap := g0 }) (h1.to fun o q => e0.extBut _ _ D.i1z q) (c1.to fun o q => e0.extBut _ _ D.l1z q) hx fun g1 j1 e1 => wpAny_pure ?_))))
    have t1 : IsPair g1 TO a b := e1.extBut _ _ D.TOi1 (e0.extBut _ _ D.TOz hTO)
    refine wpAny_bind (wpAny_seqItems t1 rfl (wpAny_bind (wpAny_updateSeq_pair t1 fun g2 t2 e2 => ?_)))
    replace t2 : IsPair g2 TO x b := t2
    refine wpAny_bind (wpAny_letGo (wpAny_pure ?_))
    refine wpAny_bind (wpAny_bind (wpAny_onRaise (wpAny_bind (m := Builtin.SmallTypes.nextOf (.ref i2)) (nxA_item (s := { s with heap := g2 }) (h2.to fun o q => e2.extBut _ _ D.TOi2.symm (e1.extBut _ _ D.i12.symm (e0.extBut _ _ D.i2z q)))
      (c2.to fun o q => e2.extBut _ _ D.l2TO (e1.extBut _ _ D.l2i1 (e0.extBut _ _ D.l2z q))) hy fun g3 j2 e3 => wpAny_pure ?_))))
    have t3 : IsPair g3 TO x b := e3.extBut _ _ D.TOi2 t2
    refine wpAny_bind (wpAny_seqItems t3 rfl (wpAny_bind (wpAny_updateSeq_pair t3 fun g4 t4 e4 => ?_)))
    replace t4 : IsPair g4 TO x y := t4
    refine wpAny_bind (wpAny_letGo (wpAny_pure (wpAny_pure ?_)))
    refine wpAny_bind (wpAny_seqItems t4 rfl (wpAny_bind (wpAny_newTuple ?_)))
    have sz : g4.objs.size = s.heap.objs.size := by rw [e4.1, e3.1, e2.1, e1.1, e0.1]
    have z4 : ZSt g4 z TI TO .ellipsis bb := e4.extBut _ _ D.TOz.symm (e3.extBut _ _ D.i2z.symm (e2.extBut _ _ D.TOz.symm (e1.extBut _ _ D.i1z.symm z0)))
    have kp : ∀ c o, c ≠ z → c ≠ TO → c ≠ i1 → c ≠ i2 → s.heap.get? c = some o → g4.get? c = some o := fun c o n1 n2 n3 n4 q => e4.extBut _ _ n2 (e3.extBut _ _ n4 (e2.extBut _ _ n2 (e1.extBut _ _ n3 (e0.extBut _ _ n1 q))))
    have j1' : ItA k1 g4 i1 l1 (i + 1) := j1.to fun o q => e4.extBut _ _ D.TOi1.symm (e3.extBut _ _ D.i12 (e2.extBut _ _ D.TOi1.symm q))
    have j2' : ItA k2 g4 i2 l2 (i + 1) := j2.to fun o q => e4.extBut _ _ D.TOi2.symm q
    have zl : z < g4.objs.size := Heap.lt_size z4
    refine wpAny_bind (m := Builtin.SmallTypes.ownedTupleHandOut (.ref z) (.ref g4.objs.size)) ?_
    unfold Builtin.SmallTypes.ownedTupleHandOut
    have z5 : ZSt (g4.push { cls := .type "tuple", data := .seq #[x, y] }) z TI TO .ellipsis bb := Heap.get?_push_of_some _ z4
    refine wpAny_bind (wpAny_setField_rec z5 (by simp) fun g6 z6 e6 => ?_)
    replace z6 : ZSt g6 z TI TO (rawInt g4.objs.size) bb := z6
    refine wpAny_setField_rec z6 (by simp) fun g7 z7 e7 => wpAny_pure ⟨_, rfl, ?_⟩
    replace z7 : ZSt g7 z TI TO (rawInt g4.objs.size) false := z7
    have up : ∀ c o, c ≠ z → g4.get? c = some o → g7.get? c = some o := fun c o n q => e7.extBut _ _ n (e6.extBut _ _ n (Heap.get?_push_of_some _ q))
    have tt : IsPair g7 g4.objs.size x y := e7.extBut _ _ (Nat.ne_of_gt zl) (e6.extBut _ _ (Nat.ne_of_gt zl) (Heap.get?_push_size _ rfl))
    show Q (.ref g4.objs.size) _
    rw [sz] at tt ⊢
    exact hQ g7 _ _ z7 (.inr ⟨_, rfl⟩) ⟨x, y, up _ _ D.TOz t4⟩ (j1'.to fun o q => up _ o D.i1z q) (j2'.to fun o q => up _ o D.i2z q) tt fun c o n1 n2 n3 n4 q => up c o n1 (kp c o n1 n2 n3 n4 q)
  · simp only [Bool.false_eq_true, if_false]
    refine wpAny_bind ?_
    rw [← Array.forIn_toList]
    simp only [List.forIn_cons, List.forIn_nil]
    refine wpAny_bind (wpAny_bind (wpAny_holding (wpAny_bind (m := Builtin.SmallTypes.nextOf (.ref i1)) (nxA_item (s := { s with heap := g0 }) (h1.to fun o q => e0.extBut _ _ D.i1z q) (c1.to fun o q => e0.extBut _ _ D.l1z q) hx fun g1 j1 e1 => wpAny_pure (wpAny_pure ?_)))))
    refine wpAny_bind (wpAny_bind (wpAny_holding (wpAny_bind (m := Builtin.SmallTypes.nextOf (.ref i2)) (nxA_item (s := { s with heap := g1 }) (h2.to fun o q => e1.extBut _ _ D.i12.symm (e0.extBut _ _ D.i2z q)) (c2.to fun o q => e1.extBut _ _ D.l2i1 (e0.extBut _ _ D.l2z q)) hy fun g2 j2 e2 => wpAny_pure (wpAny_pure (wpAny_pure ?_))))))
    refine wpAny_bind (m := newTuple [x, y]) (wpAny_newTuple (wpAny_pure ⟨_, rfl, ?_⟩))
    have sz : g2.objs.size = s.heap.objs.size := by rw [e2.1, e1.1, e0.1]
    have z2 : ZSt g2 z TI TO f true := e2.extBut _ _ D.i2z.symm (e1.extBut _ _ D.i1z.symm z0)
    have kp : ∀ c o, c ≠ z → c ≠ i1 → c ≠ i2 → s.heap.get? c = some o → g2.get? c = some o := fun c o n1 n2 n3 q => e2.extBut _ _ n3 (e1.extBut _ _ n2 (e0.extBut _ _ n1 q))
    have tt : IsPair (g2.push { cls := .type "tuple", data := .seq #[x, y] }) g2.objs.size x y := Heap.get?_push_size _ rfl
    show Q (.ref g2.objs.size) _
    rw [sz] at tt ⊢
    exact hQ _ _ _ (Heap.get?_push_of_some _ z2) hf ⟨a, b, Heap.get?_push_of_some _ (kp _ _ D.TOz D.TOi1 D.TOi2 hTO)⟩ ((j1.to fun o q => e2.extBut _ _ D.i12 q).to fun o q => Heap.get?_push_of_some _ q) (j2.to fun o q => Heap.get?_push_of_some _ q) tt
      fun c o n1 _ n3 n4 q => Heap.get?_push_of_some _ (kp c o n1 n3 n4 q)
theorem zipA_end {Q : Fin → Shared → Prop} (hh : A.handled = none) (D : ZipApart z TI TO i1 i2 l1 l2) (hz : ZSt s.heap z TI TO f bb) (hf : ZF f) (hTI : IsPair s.heap TI (.ref i1) (.ref i2)) (hTO : IsPair s.heap TO a b) (h1 : ItA k1 s.heap i1 l1 i) (h2 : ItA k2 s.heap i2 l2 i) (c1 : CoA k1 s.heap l1 xs) (c2 : CoA k2 s.heap l2 ys)
    (hend : xs[i]? = none ∨ ys[i]? = none) (hE : ∀ h' e, (∀ c o, c ≠ z → c ≠ TO → c ≠ i1 → c ≠ i2 → s.heap.get? c = some o → h'.get? c = some o) → (∃ o, h'.get? e = some o ∧ o.cls = .type "StopIteration") → E (.ref e) { s with heap := h' }) :
    wpAny (model prog w) A (Builtin.«zip.__next__» ⟨[.ref z], []⟩) Q E s := by
  refine wpAny_bind (m := field (.ref z) 2) (wpAny_field hz rfl (x := .bool false) rfl ?_)
  refine wpAny_bind (m := field (.ref z) 3) (wpAny_field hz rfl (x := .ref TI) rfl ?_)
  refine wpAny_bind (wpAny_seqItems hTI rfl (wpAny_bind (m := Builtin.SmallTypes.ownedTupleIsFree (.ref z)) (zs_free hz hf ?_ fun g0 z0 e0 => ?_)))
  · simp only [if_true]
    refine wpAny_bind (wpAny_rule (wpAny_bind (wpAny_field hz rfl (x := .ref TO) rfl (wpAny_bind (wpAny_setField_rec hz (by simp) fun g0 z0 e0 => ?_)))))
    replace z0 : ZSt g0 z TI TO .ellipsis bb := z0
    refine wpAny_bind ?_
    simp only [List.zipIdx_cons, List.zipIdx_nil, List.forIn_cons, List.forIn_nil]
    refine wpAny_bind (wpAny_bind (wpAny_onRaise (wpAny_bind (m := Builtin.SmallTypes.nextOf (.ref i1)) ?_)))
    cases hx : xs[i]? with
    | none =>
      refine nxA_end (s := { s with heap := g0 }) hh (h1.to fun o q => e0.extBut _ _ D.i1z q) (c1.to fun o q => e0.extBut _ _ D.l1z q) hx fun g1 e e1 ⟨oe, he, hc⟩ => ?_
      have z1 : ZSt g1 z TI TO .ellipsis bb := e1 _ _ D.i1z.symm z0
      have ez : e ≠ z := fun q => by subst q; rw [z1] at he; cases he; simp at hc
      exact wpAny_setField_rec z1 (by simp) fun g2 _ e2 => hE g2 e (fun c o n1 _ n3 _ q => e2.extBut _ _ n1 (e1 _ _ n3 (e0.extBut _ _ n1 q))) ⟨oe, e2.extBut _ _ ez he, hc⟩
    | some x =>
      have hy : ys[i]? = none := hend.elim (fun q => by rw [hx] at q; cases q) id
      refine nxA_item (s := { s with heap := g0 }) (h1.to fun o q => e0.extBut _ _ D.i1z q) (c1.to fun o q => e0.extBut _ _ D.l1z q) hx fun g1 j1 e1 => wpAny_pure ?_
      have t1 : IsPair g1 TO a b := e1.extBut _ _ D.TOi1 (e0.extBut _ _ D.TOz hTO)
      refine wpAny_bind (wpAny_seqItems t1 rfl (wpAny_bind (wpAny_updateSeq_pair t1 fun g2 t2 e2 => ?_)))
      refine wpAny_bind (wpAny_letGo (wpAny_pure ?_))
      refine wpAny_bind (wpAny_bind (wpAny_onRaise (wpAny_bind (m := Builtin.SmallTypes.nextOf (.ref i2)) ?_)))
      refine nxA_end (s := { s with heap := g2 }) hh (h2.to fun o q => e2.extBut _ _ D.TOi2.symm (e1.extBut _ _ D.i12.symm (e0.extBut _ _ D.i2z q))) (c2.to fun o q => e2.extBut _ _ D.l2TO (e1.extBut _ _ D.l2i1 (e0.extBut _ _ D.l2z q))) hy fun g3 e e3 ⟨oe, he, hc⟩ => ?_
      have z3 : ZSt g3 z TI TO .ellipsis bb := e3 _ _ D.i2z.symm (e2.extBut _ _ D.TOz.symm (e1.extBut _ _ D.i1z.symm z0))
      have ez : e ≠ z := fun q => by subst q; rw [z3] at he; cases he; simp at hc
      exact wpAny_setField_rec z3 (by simp) fun g4 _ e4 => hE g4 e (fun c o n1 n2 n3 n4 q => e4.extBut _ _ n1 (e3 _ _ n4 (e2.extBut _ _ n2 (e1.extBut _ _ n3 (e0.extBut _ _ n1 q))))) ⟨oe, e4.extBut _ _ ez he, hc⟩
  · simp only [Bool.false_eq_true, if_false]
    refine wpAny_bind ?_
    rw [← Array.forIn_toList]
    simp only [List.forIn_cons, List.forIn_nil]
    refine wpAny_bind (wpAny_bind (wpAny_holding (wpAny_bind (m := Builtin.SmallTypes.nextOf (.ref i1)) ?_)))
    cases hx : xs[i]? with
    | none => exact nxA_end (s := { s with heap := g0 }) hh (h1.to fun o q => e0.extBut _ _ D.i1z q) (c1.to fun o q => e0.extBut _ _ D.l1z q) hx fun g1 e e1 he => hE g1 e (fun c o n1 _ n3 _ q => e1 _ _ n3 (e0.extBut _ _ n1 q)) he
    | some x =>
      have hy : ys[i]? = none := hend.elim (fun q => by rw [hx] at q; cases q) id
      refine nxA_item (s := { s with heap := g0 }) (h1.to fun o q => e0.extBut _ _ D.i1z q) (c1.to fun o q => e0.extBut _ _ D.l1z q) hx fun g1 j1 e1 => wpAny_pure (wpAny_pure ?_)
      refine wpAny_bind (wpAny_bind (wpAny_holding (wpAny_bind (m := Builtin.SmallTypes.nextOf (.ref i2)) ?_)))
      exact nxA_end (s := { s with heap := g1 }) hh (h2.to fun o q => e1.extBut _ _ D.i12.symm (e0.extBut _ _ D.i2z q)) (c2.to fun o q => e1.extBut _ _ D.l2i1 (e0.extBut _ _ D.l2z q)) hy fun g2 e e2 he => hE g2 e (fun c o n1 _ n3 n4 q => e2 _ _ n4 (e1.extBut _ _ n3 (e0.extBut _ _ n1 q))) he
theorem go_zs {tg : Expr} {T : Addr} {Q : Unit → Shared → Prop} (hz : ZSt s.heap z TI TO f bb) (hf : ZF f) (q : ∀ h' f', ZSt h' z TI TO f' bb → ZF f' → Heap.SameBut z s.heap h' → Q () { s with heap := h' }) : wpAny (model prog w) A (letOwnedTupleGo tg (.ref z) (.ref T)) Q E s := by
  have stay : Q () s := q s.heap f hz hf (Heap.SameBut.refl _ _)
  have key : wpAny (model prog w) A (do
      let o ← load z
      match o.cls, o.data with
      | .type n, .fields vs =>
        if ["enumerate", "zip", "dict_itemiterator", "dict_reverseitemiterator", "odict_iterator", "itertools.zip_longest", "itertools.pairwise"].contains n && vs[0]? == some (rawInt T) then
          rule "for.unpacks-the-owned-tuple"
          updateField z 0 .none
      | _, _ => pure ()) Q E s := by
    refine wpAny_bind (wpAny_load hz ?_)
    simp only
    split
    · exact wpAny_bind (wpAny_rule (wpAny_setField_rec hz (by simp) fun g1 z1 e1 => q g1 _ z1 (.inl rfl) e1))
    · exact wpAny_pure stay
  cases tg <;> first | exact key | exact wpAny_pure stay
def itO (k : Bool) (l : Addr) : Obj := { cls := .type (if k = true then "tuple_iterator" else "list_iterator"), data := .fields #[.ref l, .int 0 0] }
theorem pyIterA {k : Bool} {l : Addr} {xs : Array Value} {Q : Value → Shared → Prop} (c : CoA k s.heap l xs) (q : Q (.ref s.heap.objs.size) { s with heap := s.heap.push (itO k l) }) : wpAny (model prog w) A (pyIter (.ref l)) Q E s := by
  cases k with
  | true => exact wpAny_pyIter_tuple (show s.heap.IsTuple l xs from c) q
  | false => exact wpAny_pyIter_list (show s.heap.IsList l xs from c) q
end
end
def zh5 (k1 k2 : Bool) (h : Heap) (l1 l2 : Addr) : Heap := ((((h.push (itO k1 l1)).push (itO k2 l2)).push { cls := .type "tuple", data := .seq #[.ref h.objs.size, .ref (h.push (itO k1 l1)).objs.size] }).push { cls := .type "tuple", data := .seq #[.none, .none] }).push
  { cls := .type "zip", data := .fields #[.none, .bool false, .bool false, .ref ((h.push (itO k1 l1)).push (itO k2 l2)).objs.size, .ref (((h.push (itO k1 l1)).push (itO k2 l2)).push { cls := .type "tuple", data := .seq #[.ref h.objs.size, .ref (h.push (itO k1 l1)).objs.size] }).objs.size] }
def zh4 (k1 k2 : Bool) (h : Heap) (l1 l2 : Addr) : Heap := (((h.push (itO k1 l1)).push (itO k2 l2)).push { cls := .type "tuple", data := .seq #[.ref h.objs.size, .ref (h.push (itO k1 l1)).objs.size] }).push { cls := .type "tuple", data := .seq #[.none, .none] }
theorem meets_zipA (k1 k2 : Bool) (l1 l2 : Addr) (xs ys : Array Value) : Meets (Builtin.«zip.__new__» ⟨[.type "zip", .ref l1, .ref l2], []⟩) (fun _ R s => CoA k1 s.heap l1 xs ∧ CoA k2 s.heap l2 ys ∧ R (.ok (.ret (.ref (zh4 k1 k2 s.heap l1 l2).objs.size))) { s with heap := zh5 k1 k2 s.heap l1 l2 }) :=
  .of_wp fun prog w A R s q => by
    obtain ⟨hp, g, d, tk, os⟩ := s
    obtain ⟨q1, q2, q⟩ := q
    have hsub := sub_zip
    have r1 : CoA k1 (Shared.heap ⟨hp, g, d, tk, os⟩) l1 xs := q1
    have r2 : CoA k2 (Shared.heap ⟨hp.push (itO k1 l1), g, d, tk, os⟩) l2 ys := q2.to fun o e => Heap.get?_push_of_some _ e
    wp_walk using pyIterA r1, pyIterA r2
    exact ⟨_, rfl, q⟩
section
variable {prog : Program} {w : World} {A : Around} {E : Value → Shared → Prop} {s : Shared}
theorem call_zipA {k1 k2 : Bool} {l1 l2 : Addr} {xs ys : Array Value} {Q : Value → Shared → Prop} (q1 : CoA k1 s.heap l1 xs) (q2 : CoA k2 s.heap l2 ys)
    (q : ∀ h', ZSt h' (s.heap.objs.size + 4) (s.heap.objs.size + 2) (s.heap.objs.size + 3) .none false → IsPair h' (s.heap.objs.size + 2) (.ref s.heap.objs.size) (.ref (s.heap.objs.size + 1)) → IsPair h' (s.heap.objs.size + 3) .none .none → ItA k1 h' s.heap.objs.size l1 0 → ItA k2 h' (s.heap.objs.size + 1) l2 0 →
      (∀ c o, s.heap.get? c = some o → h'.get? c = some o) → Q (.ref (s.heap.objs.size + 4)) { s with heap := h' }) : wpAny (model prog w) A (call (.type "zip") [.ref l1, .ref l2]) Q E s := by
  refine callType_new F.called_zip (by decide) (F.typeCall_zip_2 _ _) (F.newCall_zip_2 _ _) (fun obj => F.args_object_init_3 obj _ _) F.entry_zip_new (meets_zipA k1 k2 l1 l2 xs ys) ⟨q1, q2, ?_⟩
  have n1 : (s.heap.push (itO k1 l1)).objs.size = s.heap.objs.size + 1 := Heap.size_push ..
  have n2 : ((s.heap.push (itO k1 l1)).push (itO k2 l2)).objs.size = s.heap.objs.size + 2 := by rw [Heap.size_push, n1]
  have n3 : (((s.heap.push (itO k1 l1)).push (itO k2 l2)).push { cls := .type "tuple", data := .seq #[.ref s.heap.objs.size, .ref (s.heap.push (itO k1 l1)).objs.size] }).objs.size = s.heap.objs.size + 3 := by rw [Heap.size_push, n2]
  have n4 : (zh4 k1 k2 s.heap l1 l2).objs.size = s.heap.objs.size + 4 := by unfold zh4; rw [Heap.size_push, n3]
  have g5 : (zh5 k1 k2 s.heap l1 l2).get? (zh4 k1 k2 s.heap l1 l2).objs.size = some _ := Heap.get?_push_size _ rfl
  have g4 : (zh5 k1 k2 s.heap l1 l2).get? (((s.heap.push (itO k1 l1)).push (itO k2 l2)).push { cls := .type "tuple", data := .seq #[.ref s.heap.objs.size, .ref (s.heap.push (itO k1 l1)).objs.size] }).objs.size = some _ := Heap.get?_push_of_some _ (Heap.get?_push_size _ rfl)
  have g3 : (zh5 k1 k2 s.heap l1 l2).get? ((s.heap.push (itO k1 l1)).push (itO k2 l2)).objs.size = some _ := Heap.get?_push_of_some _ (Heap.get?_push_of_some _ (Heap.get?_push_size _ rfl))
  have g2 : (zh5 k1 k2 s.heap l1 l2).get? (s.heap.push (itO k1 l1)).objs.size = some (itO k2 l2) := Heap.get?_push_of_some _ (Heap.get?_push_of_some _ (Heap.get?_push_of_some _ (Heap.get?_push_size _ rfl)))
  have g1 : (zh5 k1 k2 s.heap l1 l2).get? s.heap.objs.size = some (itO k1 l1) := Heap.get?_push_of_some _ (Heap.get?_push_of_some _ (Heap.get?_push_of_some _ (Heap.get?_push_of_some _ (Heap.get?_push_size _ rfl))))
  rw [n2, n3, n4] at g5
  rw [n1, n2] at g3
  rw [n3] at g4
  rw [n1] at g2
  show _ ∧ _
  rw [n4]
  refine ⟨⟨_, g5, rfl⟩, q _ g5 g3 g4 ?_ ?_ fun c o x => Heap.get?_push_of_some _ (Heap.get?_push_of_some _ (Heap.get?_push_of_some _ (Heap.get?_push_of_some _ (Heap.get?_push_of_some _ x))))⟩
  · cases k1
    · exact ⟨_, g1, rfl, rfl⟩
    · exact ⟨_, g1, rfl, rfl⟩
  · cases k2
    · exact ⟨_, g2, rfl, rfl⟩
    · exact ⟨_, g2, rfl, rfl⟩
section
variable {k1 k2 : Bool} {z TI TO i1 i2 l1 l2 : Addr} {i : Nat} {xs ys : Array Value} {a b x y f : Value} {bb : Bool}
theorem nextZ_item {Q : Option Value → Shared → Prop} (D : ZipApart z TI TO i1 i2 l1 l2) (hz : ZSt s.heap z TI TO f bb) (hf : ZF f) (hTI : IsPair s.heap TI (.ref i1) (.ref i2)) (hTO : IsPair s.heap TO a b) (h1 : ItA k1 s.heap i1 l1 i) (h2 : ItA k2 s.heap i2 l2 i) (c1 : CoA k1 s.heap l1 xs) (c2 : CoA k2 s.heap l2 ys)
    (hx : xs[i]? = some x) (hy : ys[i]? = some y) (hQ : ∀ h' f' b', ZSt h' z TI TO f' b' → ZF f' → (∃ p q, IsPair h' TO p q) → ItA k1 h' i1 l1 (i + 1) → ItA k2 h' i2 l2 (i + 1) → IsPair h' s.heap.objs.size x y →
      (∀ c o, c ≠ z → c ≠ TO → c ≠ i1 → c ≠ i2 → s.heap.get? c = some o → h'.get? c = some o) → Q (some (.ref s.heap.objs.size)) { s with heap := h' }) : wpAny (model prog w) A (pyNext (.ref z)) Q E s := by
  have ty : s.TypeIs (.ref z) "zip" := ⟨_, hz, rfl⟩
  unfold pyNext
  exact wpAny_bind (wpAny_attempt (wpAny_callSpecial?_slot (name := Str.ofString "__next__") ty F.slot_zip_next (wpAny_call_entry F.slot_zip_next ty F.entry_zip_next
    (zipA_item D hz hf hTI hTO h1 h2 c1 c2 hx hy fun h' f' b' p1 p2 p3 p4 p5 p6 p7 => wpAny_pure (hQ h' f' b' p1 p2 p3 p4 p5 p6 p7)) (F.args_zip_next_1 _))))
theorem nextZ_end {Q : Option Value → Shared → Prop} (hh : A.handled = none) (D : ZipApart z TI TO i1 i2 l1 l2) (hz : ZSt s.heap z TI TO f bb) (hf : ZF f) (hTI : IsPair s.heap TI (.ref i1) (.ref i2)) (hTO : IsPair s.heap TO a b) (h1 : ItA k1 s.heap i1 l1 i) (h2 : ItA k2 s.heap i2 l2 i) (c1 : CoA k1 s.heap l1 xs) (c2 : CoA k2 s.heap l2 ys)
    (hend : xs[i]? = none ∨ ys[i]? = none) (hQ : ∀ h', (∀ c o, c ≠ z → c ≠ TO → c ≠ i1 → c ≠ i2 → s.heap.get? c = some o → h'.get? c = some o) → Q none { s with heap := h' }) : wpAny (model prog w) A (pyNext (.ref z)) Q E s := by
  have ty : s.TypeIs (.ref z) "zip" := ⟨_, hz, rfl⟩
  unfold pyNext
  refine wpAny_bind (wpAny_attempt (wpAny_callSpecial?_slot (name := Str.ofString "__next__") ty F.slot_zip_next (wpAny_call_entry F.slot_zip_next ty F.entry_zip_next (zipA_end hh D hz hf hTI hTO h1 h2 c1 c2 hend fun h' e kp ⟨o, ho, hc⟩ => ?_) (F.args_zip_next_1 _))))
  exact wpAny_bind (wpAny_isInstance (T := "StopIteration") (b := true) ⟨o, ho, hc⟩ isSubtype_stop (wpAny_pure (hQ _ kp)))
theorem iterZ {Q : Value → Shared → Prop} (hz : ZSt s.heap z TI TO f bb) (q : Q (.ref z) s) : wpAny (model prog w) A (pyIter (.ref z)) Q E s := by
  have ty : s.TypeIs (.ref z) "zip" := ⟨_, hz, rfl⟩
  refine wpAny_pyIter_slot ty F.slot_zip_iter (wpAny_call_entry F.slot_zip_iter ty F.entry_zip_iter ?_ (F.args_zip_iter_1 _))
  show wpAny (model prog w) A.in1 (ret (.ref z)) _ _ s
  exact wpAny_pure ⟨_, rfl, "zip", _, ty, F.slot_zip_next.lookup, q⟩
end
end
/-- what a zip yields -/
def ItZ (K : PySem.W.Frag) (k1 k2 : Bool) (a b : Addr) : It :=
  ⟨fun i H => ∃ (xs ys : List V) (x y : V), SqA k1 K H a xs ∧ SqA k2 K H b ys ∧ xs[i]? = some x ∧ ys[i]? = some y,
    fun i H v H' => ∃ T x y, v = .ref T ∧ H T = none ∧ H' = upd H T (.tup [x, y]) ∧ (∀ xs, SqA k1 K H a xs → xs[i]? = some x) ∧ ∀ ys, SqA k2 K H b ys → ys[i]? = some y,
    fun i H => ∃ xs ys : List V, SqA k1 K H a xs ∧ SqA k2 K H b ys ∧ (xs.length ≤ i ∨ ys.length ≤ i)⟩
section
variable {X : Cx} {pins : List (Addr × Obj)} {σ : L2.St} {H : Hp} {s : Shared}
theorem sqA_get (I : Inv X pins σ H s) {k : Bool} {a : Addr} {xs : List V} (h : SqA k X.K H a xs) : ∃ its : List Value, Vals xs its ∧ CoA k s.heap a its.toArray ∧ a < s.heap.objs.size := by
  cases k with
  | true =>
    obtain ⟨its, rv, p, _⟩ := I.tuple (show SqT X.K H a xs from h)
    obtain ⟨o, ho, _⟩ := id p
    exact ⟨its, rv, p, Heap.lt_size ho⟩
  | false =>
    obtain ⟨its, rv, p, _⟩ := I.list (show SqL X.K H a xs from h)
    exact ⟨its, rv, p.isList, p.lt⟩
theorem sqA_inj (I : Inv X pins σ H s) {k : Bool} {a : Addr} {xs ys : List V} (h : SqA k X.K H a xs) (h2 : SqA k X.K H a ys) : xs = ys := by
  cases k with
  | true => exact I.tuple_inj (show SqT X.K H a xs from h) h2
  | false => exact I.list_inj (show SqL X.K H a xs from h) h2
end
theorem turnZ {P : Program} {w : World} {K : PySem.W.Frag} {tg : Expr} {k1 k2 : Bool} {a b z TI TO i1 i2 : Addr} (D : ZipApart z TI TO i1 i2 a b) :
    Turn P w K tg (ItZ K k1 k2 a b) [z, TI, TO, i1, i2] z (fun i h => (∃ f bb, ZSt h z TI TO f bb ∧ ZF f) ∧ IsPair h TI (.ref i1) (.ref i2) ∧ (∃ x y, IsPair h TO x y) ∧ ItA k1 h i1 a i ∧ ItA k2 h i2 b i) where
  mem := by simp
  obj := fun i h ⟨⟨f, bb, hz, _⟩, hTI, ⟨x, y, hTO⟩, h1, h2⟩ c hc => by
    have e' : c = z ∨ c = TI ∨ c = TO ∨ c = i1 ∨ c = i2 := by simpa using hc
    rcases e' with rfl | rfl | rfl | rfl | rfl
    · exact ⟨_, hz, fun v q => nomatch q⟩
    · exact ⟨_, hTI, fun v q => nomatch q⟩
    · exact ⟨_, hTO, fun v q => nomatch q⟩
    · exact h1.ob
    · exact h2.ob
  keep := fun i h h' ⟨⟨f, bb, hz, zf⟩, hTI, ⟨x, y, hTO⟩, h1, h2⟩ kp =>
    ⟨⟨f, bb, kp z (by simp) _ hz, zf⟩, kp TI (by simp) _ hTI, ⟨x, y, kp TO (by simp) _ hTO⟩, h1.to fun o q => kp i1 (by simp) o q, h2.to fun o q => kp i2 (by simp) o q⟩
  item := by
    intro X hP hw hK hc i pins s σ H E I hf ⟨⟨f, bb, hz, zf⟩, hTI, ⟨x0, y0, hTO⟩, h1, h2⟩ ⟨xs, ys, x, y, qx, qy, hx, hy⟩
    subst hP hw hK
    obtain ⟨its, rv, p, _⟩ := sqA_get I qx
    obtain ⟨its2, rv2, p2, _⟩ := sqA_get I qy
    obtain ⟨u, hu, ru⟩ := rv.get hx
    obtain ⟨u2, hu2, ru2⟩ := rv2.get hy
    have zl : z < s.heap.objs.size := Heap.lt_size hz
    refine nextZ_item D hz zf hTI hTO h1 h2 p p2 (x := u) (y := u2) (by simpa using hu) (by simpa using hu2) fun g1 f1 b1 z1 zf1 t1 j1 j2 tt kp => ⟨_, rfl, go_zs (s := { s with heap := g1 }) z1 zf1 fun g2 f2 z2 zf2 sb => ?_⟩
    have tt2 : g2.get? s.heap.objs.size = some { cls := .type "tuple", data := .seq #[u, u2] } := (sb.2 _ (Nat.ne_of_gt zl)).trans tt
    have new : ObjOk X.prog X.w (upd H s.heap.objs.size (.tup [x, y])) g2 s.heap.objs.size (.tup [x, y]) := ⟨show 2 ≤ sizeLine by decide, [u, u2], .cons ru (.cons ru2 .nil), ⟨_, tt2, rfl, _, rfl⟩⟩
    have I1 : Inv X pins σ (upd H s.heap.objs.size (.tup [x, y])) { s with heap := g2 } := I.turnedNew (t' := s.toks) (ch := [z, TI, TO, i1, i2])
      (fun c o hb q => (sb.2 c (fun e => hb (by simp [e]))).trans (kp c o (fun e => hb (by simp [e])) (fun e => hb (by simp [e])) (fun e => hb (by simp [e])) (fun e => hb (by simp [e])) q)) hf (Nat.le_refl _) new
    obtain ⟨p1, q1, t1⟩ := t1
    refine ⟨.ref s.heap.objs.size, _, I1, rfl, ⟨_, x, y, rfl, I.hok.fresh (Nat.le_refl _), rfl, fun l hl => by rw [sqA_inj I hl qx]; exact hx, fun l hl => by rw [sqA_inj I hl qy]; exact hy⟩,
      ⟨⟨f2, b1, z2, zf2⟩, (sb.2 _ D.TIz).trans (kp _ _ D.TIz D.TITO D.TIi1 D.TIi2 hTI), ⟨p1, q1, (sb.2 _ D.TOz).trans t1⟩, j1.to fun o q => (sb.2 _ D.i1z).trans q, j2.to fun o q => (sb.2 _ D.i2z).trans q⟩, fun c hcm => ?_⟩
    have hlt : c < s.heap.objs.size := by
      have e' : c = z ∨ c = TI ∨ c = TO ∨ c = i1 ∨ c = i2 := by simpa using hcm
      rcases e' with rfl | rfl | rfl | rfl | rfl
      · exact zl
      · exact Heap.lt_size hTI
      · exact Heap.lt_size hTO
      · obtain ⟨_, e1, _⟩ := h1.ob; exact Heap.lt_size e1
      · obtain ⟨_, e2, _⟩ := h2.ob; exact Heap.lt_size e2
    rw [upd_ne (Nat.ne_of_lt hlt)]
    exact (hf c hcm).1
  done := by
    intro X hP hw hK hc i pins s σ H E I hf ⟨⟨f, bb, hz, zf⟩, hTI, ⟨x0, y0, hTO⟩, h1, h2⟩ ⟨xs, ys, qx, qy, hend⟩
    subst hP hw hK
    obtain ⟨its, rv, p, _⟩ := sqA_get I qx
    obtain ⟨its2, rv2, p2, _⟩ := sqA_get I qy
    have n1 := rv.length
    have n2 := rv2.length
    have he : its.toArray[i]? = none ∨ its2.toArray[i]? = none := by
      rcases hend with q | q
      · exact .inl (by simp; omega)
      · exact .inr (by simp; omega)
    exact nextZ_end (I.ok.hd hc) D hz zf hTI hTO h1 h2 p p2 he fun h' kp => ⟨rfl, I.turnedL (t' := s.toks) (ch := [z, TI, TO, i1, i2]) (fun c o hb q => kp c o (fun e => hb (by simp [e])) (fun e => hb (by simp [e])) (fun e => hb (by simp [e])) (fun e => hb (by simp [e])) q) hf⟩
  self := fun A i s Q E ⟨⟨f, bb, hz, _⟩, _⟩ q => iterZ hz q
def iZipB (K : PySem.W.Frag) (ta : TA) : TI := fun σ H R => ta σ H fun vs H1 => ∃ a b xs ys k1 k2, vs = [.ref a, .ref b] ∧ SqA k1 K H1 a xs ∧ SqA k2 K H1 b ys ∧ R (ItZ K k1 k2 a b) H1
theorem pi_zipB {X : Cx} {tg e e2 : Expr} {ta : TA} {p pos : Pos} (hg : Gl X "zip") (hm : X.mg "zip" = none) (ha : PA X [e, e2] ta) (hs : starEach [e, e2] X.env = (false, eval e X.env) :: starEach [e2] X.env) (hpl : (backTo pos (starEach [e2] X.env)).any (·.1) = false) :
    PI X tg (.Call (.Name "zip" p) [e, e2] [] pos) (iZipB X.K ta) := by
  refine ⟨fun pins s σ H R I h => ?_⟩
  refine PyProof.Rows.Call_ (ld_blt I hg hm PyProof.Rows.boot_zip (PyProof.Rows.callWith_type1 (thn (ha.run pos pins s σ H _ I h) fun us s1 ⟨vs, H1, I1, r1, a, b, xs, ys, k1, k2, ex, qx, qy, q⟩ => ?_) hs hpl))
  subst ex
  cases r1 with
  | cons r rr =>
    cases rr with
    | cons r' rr =>
      cases rr
      cases r
      cases r'
      obtain ⟨its, rv, p1, l1⟩ := sqA_get I1 qx
      obtain ⟨its2, rv2, p2, l2⟩ := sqA_get I1 qy
      refine call_zipA p1 p2 fun h' hz hTI hTO h1 h2 hk => iterZ hz ?_
      refine ⟨s1.heap.objs.size + 4, [s1.heap.objs.size + 4, s1.heap.objs.size + 2, s1.heap.objs.size + 3, s1.heap.objs.size, s1.heap.objs.size + 1], _, _, H1, rfl, I1.kept (t' := s1.toks) hk, turnZ (PySem.W.ktu_apart s1.heap.objs.size a b l1 l2), ⟨⟨_, _, hz, .inl rfl⟩, hTI, ⟨_, _, hTO⟩, h1, h2⟩, fun c hcm => ?_, q⟩
      have hle : s1.heap.objs.size ≤ c := by
        have e' : c = s1.heap.objs.size + 4 ∨ c = s1.heap.objs.size + 2 ∨ c = s1.heap.objs.size + 3 ∨ c = s1.heap.objs.size ∨ c = s1.heap.objs.size + 1 := by simpa using hcm
        rcases e' with e' | e' | e' | e' | e' <;> rw [e'] <;> first | exact Nat.le_add_right _ _ | exact Nat.le_refl _
      exact I1.fpOk hle (I1.hok.fresh hle)
section
variable {X : Cx} {ER : ExT} {Wx : WX} {C : Calls}
/-- a list or a tuple, at once and later -/
theorem sq_seen {K : Kc} {g : Gh} {st : Stt} {s : L2.St} {H : Hp} {d : D} {v : V} {es : List D} (A : Abs K g st s H) (r : Rep K g st.h.length H d v) (e : view st.h d = .lst es ∨ view st.h d = .tup es) : ∃ a k, v = .ref a ∧ ∀ (g' : Gh) (st' : Stt) (s' : L2.St) (H' : Hp), Kp g st.h.length H g' st'.h.length H' → Abs K g' st' s' H' → view st'.h d = view st.h d →
    ∃ vs, SqA k K H' a vs ∧ Reps K g' st'.h.length H' es vs := by
  rcases e with e | e
  · obtain ⟨a, rfl, hs⟩ := lst_seen A r e
    refine ⟨a, false, rfl, fun g' st' s' H' k A' sm => ?_⟩
    obtain ⟨vs, h1, r1⟩ := hs g' st' s' H' k A' sm
    exact ⟨vs, SqL.of h1, r1⟩
  · obtain rfl : d = .tup es := by
      cases d with
      | cell l =>
        exfalso
        have e' : (match st.h[l]? with | some (.lst ds) => D.lst ds | some (.dic ks vs) => .dic ks vs | some (.obj c ds) => .obj c ds | _ => .cell l) = .tup es := e
        cases q : st.h[l]? with
        | none => rw [q] at e'; cases e'
        | some o => rw [q] at e'; cases o <;> cases e'
      | _ => exact e
    obtain ⟨a, vs, rfl, h1, r⟩ := r
    exact ⟨a, true, rfl, fun g' st' s' H' k A' _ => ⟨vs, (k.tp h1).sq, r.kp k⟩⟩
theorem zip_inv {a b : D} {items : List D} (h : itD .zip2 [a, b] = some items) : ∃ xs ys, (a = .lst xs ∨ a = .tup xs) ∧ (b = .lst ys ∨ b = .tup ys) ∧ items = List.zipWith (fun x y => D.tup [x, y]) xs ys := by
  cases a <;> cases b <;> first | (simp only [itD] at h; cases h; exact ⟨_, _, .inl rfl, .inl rfl, rfl⟩) | (simp only [itD] at h; cases h; exact ⟨_, _, .inl rfl, .inr rfl, rfl⟩) | (simp only [itD] at h; cases h; exact ⟨_, _, .inr rfl, .inl rfl, rfl⟩) | (simp only [itD] at h; cases h; exact ⟨_, _, .inr rfl, .inr rfl, rfl⟩) | (simp only [itD] at h; cases h)
theorem si_zip2 {tg a b : Expr} {t u : Ex} {p pos : Pos} (hg : Gl X "zip") (hm : X.mg "zip" = none) (h : SE X ER Wx C a t false) (h2 : SE X ER Wx C b u false) (hs : notStar a = true) (hs2 : notStar b = true) : SI X ER Wx C tg (.Call (.Name "zip" p) [a, b] [] pos) .zip2 [t, u] :=
  piImp (pi_zipB hg hm (pa_cons h (pa_cons h2 pa_nil (star_of hs2 _ _)) (star_of hs _ _)) (star_of hs _ _) (by rw [star_of hs2]; rfl)) fun s H R ⟨g, st, Qd, Xd, A, w, hi, hq, hx⟩ => by
    have w1 : wE C t st (fun d st1 => wE C u st1 (fun d2 st2 => Qd [d, d2] st2) Xd) Xd := by simpa only [wL] using w
    refine ⟨g, st, _, Xd, A, w1, fun d st1 v g1 H1 q1 x1 A1 r1 => ?_, hx⟩
    refine ⟨g1, st1, _, Xd, A1, q1, fun d2 st2 v2 g2 H2 q2 x2 A2 r2 => ?_, fun c fs st' cls dd g' H' q x A r => hx c fs st' cls dd g' H' q (x1.trans x) A r⟩
    obtain ⟨items, e1⟩ := hi _ _ q2
    obtain ⟨xs, ys, ea, eb, ei⟩ := zip_inv (show itD .zip2 [view st2.h d, view st2.h d2] = some items from e1)
    subst ei
    have r1' := r1.kp (x2.kp A1.mw)
    obtain ⟨a, k1, rfl, s1⟩ := sq_seen A2 r1' ea
    obtain ⟨b, k2, rfl, s2⟩ := sq_seen A2 r2 eb
    obtain ⟨vs, qa, _⟩ := s1 _ _ _ _ Kp.refl A2 rfl
    obtain ⟨ws, qb, _⟩ := s2 _ _ _ _ Kp.refl A2 rfl
    refine ⟨a, b, vs, ws, k1, k2, rfl, qa, qb, hq _ _ _ _ _ _ q2 e1 (x1.trans x2) A2 fun g' st' s' H' kp A' sm i => ?_⟩
    have sm2 : view st'.h d = view st2.h d ∧ view st'.h d2 = view st2.h d2 := by simpa [same] using sm
    obtain ⟨vs', qa', ra⟩ := s1 g' st' s' H' kp A' sm2.1
    obtain ⟨ws', qb', rb⟩ := s2 g' st' s' H' kp A' sm2.2
    refine ⟨fun x hx => ?_, fun hl => ⟨vs', ws', qa', qb', ?_⟩⟩
    · obtain ⟨p, q, hp, hq', rfl⟩ : ∃ p q, xs[i]? = some p ∧ ys[i]? = some q ∧ D.tup [p, q] = x := by
        rw [List.getElem?_zipWith] at hx
        cases e1 : xs[i]? with
        | none => rw [e1] at hx; cases hx
        | some p => cases e2 : ys[i]? with
          | none => rw [e1, e2] at hx; cases hx
          | some q => rw [e1, e2] at hx; cases hx; exact ⟨p, q, rfl, rfl, rfl⟩
      obtain ⟨vp, hvp, rp⟩ := ra.get hp
      obtain ⟨vq, hvq, rq⟩ := rb.get hq'
      refine ⟨⟨vs', ws', vp, vq, qa', qb', hvp, hvq⟩, fun v H3 ⟨T, x, y, ev, hT, eH, z1, z2⟩ => ?_⟩
      subst ev
      have e1 := (z1 _ qa').symm.trans hvp
      have e2 := (z2 _ qb').symm.trans hvq
      cases e1
      cases e2
      subst eH
      obtain ⟨A3, x3⟩ := A'.alloc hT (.tup [vp, vq])
      have k3 := x3.kp A'.mw
      exact ⟨g', A3, x3, T, [vp, vq], rfl, .inl ⟨.inl upd_same, A'.unW hT⟩, ⟨vp, [vq], rfl, rp.kp k3, ⟨vq, [], rfl, rq.kp k3, rfl⟩⟩⟩
    · rw [List.length_zipWith] at hl
      rw [ra.length, rb.length]
      omega
end
end Mp
namespace Mp
open PySem PySem.Spec PyProof.Rows L2
/-! ### tuple(sorted(set(e))), sorted(set(e)) -/
section
variable {X : Cx} {ER : ExT} {Wx : WX} {C : Calls} {m : Bool} {e : Expr} {t : Ex}
theorem cr_set2 (hc : X.calm = true) (hu : X.A.units + 64 < cLine) : CallR X (.type "set") (fun xs H Q => rSetI X.K X.w xs H Q ∨ rSetP X.K X.prog X.w xs H Q) := callR_or (cr_setI hc) (cr_setP hc hu)
theorem cr_sorted2 (hc : X.calm = true) : CallR X (.builtin "sorted") (fun xs H Q => rSortedSet X.w xs H Q ∨ rSortedSP X.K X.prog X.w xs H Q) := callR_or (cr_sortedSet hc) (cr_sortedSP hc)
theorem rSetI_mono {K : PySem.W.Frag} {w : World} {xs : List V} {H : Hp} {Q R : VK} (h : rSetI K w xs H Q) (i : ∀ v H', Q v H' → R v H') : rSetI K w xs H R := by
  obtain ⟨l, ns, a, b, c, d⟩ := h
  exact ⟨l, ns, a, b, c, fun a c h1 h2 => i _ _ (d a c h1 h2)⟩
theorem rSetP_mono {K : PySem.W.Frag} {P : Program} {w : World} {xs : List V} {H : Hp} {Q R : VK} (h : rSetP K P w xs H Q) (i : ∀ v H', Q v H' → R v H') : rSetP K P w xs H R := by
  obtain ⟨l, ns, a, b, c, c2, d⟩ := h
  exact ⟨l, ns, a, b, c, c2, fun a L h1 h2 h3 h4 => i _ _ (d a L h1 h2 h3 h4)⟩
theorem se_diffL {p1 p2 q1 q2 : Pos} (hc : X.calm = true) (hu : X.A.units + 64 < cLine) (g1 : Gl X "set") (m1 : X.mg "set" = none) (g2 : Gl X "sorted") (m2 : X.mg "sorted" = none) (hs : notStar e = true) (he : SO X ER Wx C e t) :
    SE X ER Wx C (.Call (.Name "sorted" p1) [.Call (.Name "set" p2) [e] [] q2] [] q1) (.op (.diff false) [t]) m := by
  have sa : SA X ER Wx C [e] [t] := sa_cons he sa_nil hs
  have h1 := pe_callTy (cr_set2 hc hu) g1 m1 (show bootBuiltins "set" = some (.type "set") by decide +kernel) sa (pos := q2) (p := p2) (he := star_of hs _ _) (hpl := rfl)
  refine peImp (pe_callB (cr_sorted2 hc) g2 m2 (show bootBuiltins "sorted" = some (.builtin "sorted") by decide +kernel) (pa_cons h1 pa_nil) (pos := q1) (p := p1)) fun s H Q h => rdA_mono (rdE_op h) fun vs H1 h1 => ?_
  rcases post_diff0 (P := X.prog) (w := X.w) (R := Q) h1 (fun g st Qd out ws H2 p A q hq r hp => new_lst A hq q r hp) with z | z
  · exact .inl (rSetI_mono z fun v H' q => .inl q)
  · exact .inr (rSetP_mono z fun v H' q => .inr q)
theorem se_diffT {p0 p1 p2 q0 q1 q2 : Pos} (hc : X.calm = true) (hu : X.A.units + 64 < cLine) (g1 : Gl X "set") (m1 : X.mg "set" = none) (g2 : Gl X "sorted") (m2 : X.mg "sorted" = none) (g0 : Gl X "tuple") (m0 : X.mg "tuple" = none) (hs : notStar e = true) (he : SO X ER Wx C e t) :
    SE X ER Wx C (.Call (.Name "tuple" p0) [.Call (.Name "sorted" p1) [.Call (.Name "set" p2) [e] [] q2] [] q1] [] q0) (.op (.diff true) [t]) false := by
  have sa : SA X ER Wx C [e] [t] := sa_cons he sa_nil hs
  have h1 := pe_callTy (cr_set2 hc hu) g1 m1 (show bootBuiltins "set" = some (.type "set") by decide +kernel) sa (pos := q2) (p := p2) (he := star_of hs _ _) (hpl := rfl)
  have h2 := pe_callB (cr_sorted2 hc) g2 m2 (show bootBuiltins "sorted" = some (.builtin "sorted") by decide +kernel) (pa_cons h1 pa_nil) (pos := q1) (p := p1)
  refine peImp (pe_callTy call_tuple_of g0 m0 (show bootBuiltins "tuple" = some (.type "tuple") by decide +kernel) (pa_cons h2 pa_nil) (pos := q0) (p := p0)) fun s H Q h => rdA_mono (rdE_op h) fun vs H1 h1 => ?_
  have z := post_diff0 (P := X.prog) (w := X.w) (R := fun v H' => ∃ p ys, [v] = [V.ref p] ∧ ((SqL X.K H' p ys ∧ ∀ l, H' l = none → Q (.ref l) (upd H' l (.tup ys))) ∨ (SqT X.K H' p ys ∧ Q (.ref p) H'))) h1 (fun g st Qd out ws H2 p A q hq r hp => by
    obtain ⟨A', x⟩ := A.alloc hp (.lst ws)
    refine ⟨p, ws, rfl, .inl ⟨SqL.of upd_same, fun l hl => ?_⟩⟩
    exact new_tup (ds := out) A' (fun d v g' H' q x2 A2 r2 => hq _ _ _ _ q (x.trans x2) A2 r2) q (r.kp (x.kp A.mw)) hl)
  rcases z with z | z
  · exact .inl (rSetI_mono z fun v H' q => .inl q)
  · exact .inr (rSetP_mono z fun v H' q => .inr q)
end

/-! ### displays with stars -/
/-- the reading of a display's items -/
def rdR (K : Kc) (ER : ExT) (Wx : WX) (w : Stt → (List D → Stt → Prop) → PX → Prop) : TA := fun s H Q => ∃ (g : Gh) (st : Stt) (Qd : List D → Stt → Prop) (Xd : PX), Abs K g st s H ∧ w st Qd Xd ∧
  (∀ ds st' vs g' H', Qd ds st' → Ext g st.h.length H g' st'.h.length H' → Abs K g' st' s H' → Reps K g' st'.h.length H' ds vs → Q vs H') ∧
  (∀ c fs st' cls dd g' H', Xd c fs st' → Ext g st.h.length H g' st'.h.length H' → Abs K g' st' s H' → ER g' st'.h.length H' c fs cls dd → Wx cls dd s H')
def SD (X : Cx) (ER : ExT) (Wx : WX) (C : Calls) (es : List Expr) (fl : List Bool) (ts : List Ex) : Prop := PA X es (rdR (kz X) ER Wx (wD C fl ts))
section
variable {X : Cx} {ER : ExT} {Wx : WX} {C : Calls} {m : Bool}
theorem sd_nil : SD X ER Wx C [] [] [] := paImp pa_nil fun s H Q h => by
  obtain ⟨g, st, Qd, Xd, A, w, hq, hx⟩ := h
  have w' : Qd [] st := by simpa only [wD] using w
  exact hq _ _ _ _ _ w' (Ext.refl _ _ _) A rfl
theorem sd_cons {e : Expr} {es : List Expr} {fl : List Bool} {t : Ex} {ts : List Ex} (h : SE X ER Wx C e t false) (hs : SD X ER Wx C es fl ts) (hst : notStar e = true) : SD X ER Wx C (e :: es) (false :: fl) (t :: ts) :=
  paImp (pa_cons h hs (star_of hst _ _)) fun s H Q h => by
    obtain ⟨g, st, Qd, Xd, A, w, hq, hx⟩ := h
    have w' : wE C t st (fun d st1 => wD C fl ts st1 (fun ds st2 => Qd (d :: ds) st2) Xd) Xd := by simpa only [wD, Bool.false_eq_true, if_false] using w
    refine ⟨g, st, _, Xd, A, w', fun d st1 v g1 H1 w1 x1 A1 r1 => ?_, hx⟩
    refine ⟨g1, st1, _, Xd, A1, w1, fun ds st2 vs g2 H2 q x2 A2 r2 => ?_, fun c fs st2 cls dd g2 H2 q x2 A2 r2 => hx _ _ _ _ _ _ _ q (x1.trans x2) A2 r2⟩
    exact hq _ _ _ _ _ q (x1.trans x2) A2 ⟨v, vs, rfl, Rep.kp (x2.kp A1.mw) r1, r2⟩
/-- the items of a list or a tuple -/
theorem Vw.seqR {K : Kc} {g : Gh} {n : Nat} {H : Hp} {d : D} {es : List D} {v : V} (e : seqD d = some es) (h : Vw K g n H d v) : ∃ p ws, v = .ref p ∧ (SqT K.K H p ws ∨ SqL K.K H p ws) ∧ Reps K g n H es ws := by
  cases d with
  | lst ds => cases e; obtain ⟨p, ws, e1, hs, t1⟩ := h; exact ⟨p, ws, e1, .inr (SqL.of hs), t1⟩
  | tup ds => cases e; obtain ⟨p, ws, e1, hs, t1⟩ := h; exact ⟨p, ws, e1, .inl hs.sq, t1⟩
  | scr ds => cases e; obtain ⟨p, ws, e1, hs, t1⟩ := h; exact ⟨p, ws, e1, .inr hs.sq, t1⟩
  | _ => cases e
theorem sd_star {e : Expr} {es : List Expr} {fl : List Bool} {t : Ex} {ts : List Ex} {p : Pos} (h : SE X ER Wx C e t false) (hs : SD X ER Wx C es fl ts) : SD X ER Wx C (.Starred e p :: es) (true :: fl) (t :: ts) :=
  paImp (StX.pa_star h hs) fun s H Q h => by
    obtain ⟨g, st, Qd, Xd, A, w, hq, hx⟩ := h
    have w' : wE C t st (fun d st1 => ∃ xs, seqD (view st1.h d) = some xs ∧ wD C fl ts st1 (fun ds st2 => Qd (xs ++ ds) st2) Xd) Xd := by simpa only [wD, if_true] using w
    refine ⟨g, st, _, Xd, A, w', fun d st1 v g1 H1 w1 x1 A1 r1 => ?_, hx⟩
    obtain ⟨xs, exs, w2⟩ := w1
    obtain ⟨p, ws, rfl, sq, t1⟩ := (A1.view r1).seqR exs
    refine ⟨p, ws, rfl, sq, g1, st1, _, Xd, A1, w2, fun ds st2 vs g2 H2 q x2 A2 r2 => ?_, fun c fs st2 cls dd g2 H2 q x2 A2 r2 => hx _ _ _ _ _ _ _ q (x1.trans x2) A2 r2⟩
    exact hq _ _ _ _ _ q (x1.trans x2) A2 ((t1.kp (x2.kp A1.mw)).append r2)
theorem se_dispT {es : List Expr} {fl : List Bool} {ts : List Ex} {k : Nat} {pos : Pos} (h : SD X ER Wx C es fl ts) : SE X ER Wx C (.Tuple es k pos) (.disp true fl ts) false :=
  peImp (pe_tup h) fun s H Q h => by
    obtain ⟨g, st, Qd, Xd, A, w, hq, hx⟩ := h
    have w2 : wD C fl ts st (fun ds st1 => ds.length ≤ sizeLine ∧ Qd (.tup ds) st1) Xd := by simpa only [wE, if_true] using w
    refine ⟨g, st, _, Xd, A, w2, fun ds st1 vs g1 H1 ⟨hds, q⟩ x1 A1 r1 => ⟨?_, fun p hp => ?_⟩, hx⟩
    · rw [r1.length]
      exact hds
    · exact new_tup (Qd := fun d => Qd d st1) A1 (fun d v g' H' q' x' A' r' => hq d st1 v g' H' q' (x1.trans x') A' r') q r1 hp
theorem se_dispL {es : List Expr} {fl : List Bool} {ts : List Ex} {pos : Pos} (h : SD X ER Wx C es fl ts) : SE X ER Wx C (.List es pos) (.disp false fl ts) m :=
  peImp (pe_lst h) fun s H Q h => by
    obtain ⟨g, st, Qd, Xd, A, w, hq, hx⟩ := h
    have w2 : wD C fl ts st (fun ds st1 => ds.length ≤ sizeLine ∧ Qd (.lst ds) st1) Xd := by simpa only [wE, Bool.false_eq_true, if_false] using w
    refine ⟨g, st, _, Xd, A, w2, fun ds st1 vs g1 H1 ⟨hds, q⟩ x1 A1 r1 => ⟨?_, fun p hp => ?_⟩, hx⟩
    · rw [r1.length]
      exact hds
    · exact new_lst (Qd := fun d => Qd d st1) A1 (fun d v g' H' q' x' A' r' => hq d st1 v g' H' q' (x1.trans x') A' r') q r1 hp

/-! ### f-strings -/
/-- the parts, one behind the other -/
inductive SF (X : Cx) (ER : ExT) (Wx : WX) (C : Calls) : List Expr → List Ex → Prop where
  | nil : SF X ER Wx C [] []
  | con {x : Str} {k : Nat} {p : Pos} {es : List Expr} {ts : List Ex} (h : SF X ER Wx C es ts) : SF X ER Wx C (.Constant (.str x) k p :: es) (.con (.str x) :: ts)
  | fmt {e : Expr} {t : Ex} {p : Pos} {es : List Expr} {ts : List Ex} (he : SE X ER Wx C e t false) (h : SF X ER Wx C es ts) : SF X ER Wx C (.FormattedValue e (-1) none p :: es) (t :: ts)
theorem fmtD_inv {d : D} {y : Str} (h : fmtD d = some y) : (d = .str y ∧ y.length ≤ sizeLine) ∨ ∃ i : Int, d = .int i ∧ i.natAbs.log2 < 1920 ∧ y = toString i := by
  cases d with
  | str x =>
    have h' : (if x.length ≤ sizeLine then some x else none) = some y := h
    by_cases hl : x.length ≤ sizeLine
    · rw [if_pos hl] at h'; injection h' with h'; subst h'; exact .inl ⟨rfl, hl⟩
    · rw [if_neg hl] at h'; cases h'
  | int i =>
    have h' : (if i.natAbs.log2 < 1920 then some (Str.ofString (toString i)) else none) = some y := h
    by_cases hl : i.natAbs.log2 < 1920
    · rw [if_pos hl] at h'; injection h' with h'; exact .inr ⟨i, rfl, hl, h'.symm⟩
    · rw [if_neg hl] at h'; cases h'
  | _ => cases h
theorem sf_pj {es : List Expr} {ts : List Ex} (h : SF X ER Wx C es ts) : ∃ js, PJ X es js ∧ ∀ s H acc (Q : Str → Hp → Prop), (∃ (g : Gh) (st : Stt) (Qd : Str → Stt → Prop) (Xd : PX), Abs (kz X) g st s H ∧ wF C ts acc st Qd Xd ∧
    (∀ y st' g' H', Qd y st' → Ext g st.h.length H g' st'.h.length H' → Abs (kz X) g' st' s H' → Q y H') ∧
    (∀ c fs st' cls dd g' H', Xd c fs st' → Ext g st.h.length H g' st'.h.length H' → Abs (kz X) g' st' s H' → ER g' st'.h.length H' c fs cls dd → Wx cls dd s H')) → tJs js acc s H Q := by
  induction h with
  | nil =>
    refine ⟨[], .nil, fun s H acc Q h => ?_⟩
    obtain ⟨g, st, Qd, Xd, A, w, hq, hx⟩ := h
    have w' : Qd acc st := by simpa only [wF] using w
    exact hq _ _ _ _ w' (Ext.refl _ _ _) A
  | @con x k p es ts h ih =>
    obtain ⟨js, pj, ij⟩ := ih
    refine ⟨tC (.str x) :: js, .cons pe_str pj, fun s H acc Q h => ?_⟩
    obtain ⟨g, st, Qd, Xd, A, w, hq, hx⟩ := h
    have w' : ∃ y, fmtD (.str x) = some y ∧ (acc ++ y).length ≤ sizeLine ∧ wF C ts (acc ++ y) st Qd Xd := by simpa only [wF, wE] using w
    obtain ⟨y, ey, hl, w2⟩ := w'
    rcases fmtD_inv ey with ⟨e, _⟩ | ⟨i, e, _⟩
    · cases e
      exact ⟨_, rfl, hl, ij s H _ Q ⟨g, st, Qd, Xd, A, w2, hq, hx⟩⟩
    · cases e
  | @fmt e t p es ts he h ih =>
    obtain ⟨js, pj, ij⟩ := ih
    refine ⟨tFmt (rdE (kz X) ER Wx (wE C t) false) :: js, .cons (pe_fmt he) pj, fun s H acc Q h => ?_⟩
    obtain ⟨g, st, Qd, Xd, A, w, hq, hx⟩ := h
    have w' : wE C t st (fun d st1 => ∃ y, fmtD d = some y ∧ (acc ++ y).length ≤ sizeLine ∧ wF C ts (acc ++ y) st1 Qd Xd) Xd := by simpa only [wF] using w
    refine ⟨g, st, _, Xd, A, w', fun d st1 v g1 H1 w1 x1 A1 r1 => ?_, hx⟩
    obtain ⟨y, ey, hl, w2⟩ := w1
    have rest : tJs js (acc ++ y) s H1 Q := ij s H1 _ Q ⟨g1, st1, Qd, Xd, A1, w2, fun y st2 g2 H2 q x2 A2 => hq _ _ _ _ q (x1.trans x2) A2, fun c fs st2 cls dd g2 H2 q x2 A2 r2 => hx _ _ _ _ _ _ _ q (x1.trans x2) A2 r2⟩
    rcases fmtD_inv ey with ⟨e, hy⟩ | ⟨i, e, hi, ey2⟩
    · subst e
      cases (show v = V.str y from r1)
      exact .inl ⟨y, rfl, hy, y, rfl, hl, rest⟩
    · subst e
      cases (show v = V.int i from r1)
      subst ey2
      exact .inr ⟨i, rfl, hi, _, rfl, hl, rest⟩
theorem se_fst {v1 v2 : Expr} {rest : List Expr} {ts : List Ex} {pos : Pos} (h : SF X ER Wx C (v1 :: v2 :: rest) ts) : SE X ER Wx C (.JoinedStr (v1 :: v2 :: rest) pos) (.fst ts) false := by
  obtain ⟨js, pj, ij⟩ := sf_pj h
  refine peImp (pe_joined pj) fun s H Q h => ij s H _ _ ?_
  obtain ⟨g, st, Qd, Xd, A, w, hq, hx⟩ := h
  have w' : wF C ts Str.empty st (fun x st1 => Qd (.str x) st1) Xd := by simpa only [wE] using w
  exact ⟨g, st, _, Xd, A, w', fun y st' g' H' q x A' => hq _ _ _ _ _ q x A' rfl, hx⟩
end

/-! ### repr of plain data -/
/-- the table of modules is a dict of the written part -/
def sysB (K : PySem.W.Frag) : Bool := match K.lookup sysModules with
  | some o => decide (o.cls = Value.type "dict")
  | none => false
theorem sysB_inv {K : PySem.W.Frag} (h : sysB K = true) : ∃ o, K.lookup sysModules = some o ∧ o.cls = .type "dict" := by
  unfold sysB at h
  split at h
  · rename_i o e
    exact ⟨o, e, of_decide_eq_true h⟩
  · cases h
theorem kv_vals {P : Program} {w : World} : ∀ {kvs : List (Key × V)} {us : List (Key × Value)} {es : List DictEntry}, KV kvs us → Pairs (mixKind P w) es us → Vals (kvs.map fun p => kV p.1) (es.map (·.key)) ∧ Vals (kvs.map (·.2)) (es.map (·.val))
  | [], _, _, .nil, .nil => ⟨.nil, .nil⟩
  | (k, v) :: kvs, _, _, .cons ⟨e1, r1⟩ t, .cons h1 h2 p => by
    obtain ⟨a, b⟩ := kv_vals t p
    refine ⟨.cons ?_ a, .cons (show RelV v _ from by have z := r1; rw [← h2] at z; exact z) b⟩
    have e1' : k = _ := e1
    subst e1'
    rcases keyIs_shape h1 with ⟨i, tk, e, e2⟩ | ⟨x, tk, e, e2⟩
    · have z : RelV (kV (Sum.inl i)) (Value.int i tk) := ⟨tk, rfl⟩
      rw [← e, ← e2] at z
      exact z
    · have z : RelV (kV (Sum.inr x)) (Value.str x tk) := ⟨tk, rfl⟩
      rw [← e, ← e2] at z
      exact z
section
variable {X : Cx} {pins : List (Addr × Obj)} {σ : L2.St} {H : Hp} {s : Shared} {g : Gh} {n : Nat}
theorem not_sys (I : Inv X pins σ H s) (hs : sysB X.K = true) {a : Addr} {o : Obj} (ho : s.heap.get? a = some o) (hc : o.cls = .type "list") : sysModules ≠ a := fun e => by
  obtain ⟨o2, h2, c2⟩ := sysB_inv hs
  rw [← e] at ho
  have z := I.kIn _ _ h2
  rw [ho] at z
  cases z
  rw [hc] at c2
  exact absurd c2 (by decide)
theorem lst_reads (I : Inv X pins σ H s) (hs : sysB X.K = true) {a : Addr} {vs : List V} {xs : List PyData} (h : H a = some (.lst vs)) (rr : ∀ us, Vals vs us → ∃ as, ReadsAll s.heap us xs as ∧ sysModules ∉ as) : ∃ as, Reads s.heap (.ref a) (.list xs) as ∧ sysModules ∉ as := by
  obtain ⟨its, rv, pl, _⟩ := I.list (SqL.of h)
  obtain ⟨o, ho, hc, n, hd⟩ := pl.isList
  obtain ⟨as, ra, hn⟩ := rr its rv
  refine ⟨a :: as, .list ho hc hd (by simpa using ra), fun hm => ?_⟩
  rcases List.mem_cons.mp hm with e | e
  · exact not_sys I hs ho hc e
  · exact hn e
theorem tup_reads (I : Inv X pins σ H s) {a : Addr} {vs : List V} {xs : List PyData} (h : SqT X.K H a vs) (rr : ∀ us, Vals vs us → ∃ as, ReadsAll s.heap us xs as ∧ sysModules ∉ as) : ∃ as, Reads s.heap (.ref a) (.tuple xs) as ∧ sysModules ∉ as := by
  obtain ⟨its, rv, ⟨o, ho, hc, n, hd⟩, _⟩ := I.tuple h
  obtain ⟨as, ra, hn⟩ := rr its rv
  exact ⟨as, .tuple ho hc hd (by simpa using ra), hn⟩
theorem dic_reads (I : Inv X pins σ H s) {a : Addr} {kk ws : List V} {xs ys : List PyData} (h : DcR H a kk ws) (hl : xs.length = ys.length) (rk : ∀ us, Vals kk us → ∃ as, ReadsAll s.heap us xs as ∧ sysModules ∉ as)
    (rw_ : ∀ us, Vals ws us → ∃ as, ReadsAll s.heap us ys as ∧ sysModules ∉ as) : ∃ as, Reads s.heap (.ref a) (.dict (xs.zip ys)) as ∧ sysModules ∉ as := by
  obtain ⟨kvs, h1, e1, e2⟩ := h
  obtain ⟨_, hS, vs, rv, o, es, ep, ho, hx, hd, _, pr, _⟩ := dk_of I.hok h1
  obtain ⟨v1, v2⟩ := kv_vals rv pr
  rw [← e1] at v1
  rw [← e2] at v2
  obtain ⟨as, ra, hn⟩ := rk _ v1
  obtain ⟨bs, rb, hb⟩ := rw_ _ v2
  refine ⟨a :: as ++ bs, .dict ho hx.1 hd (by rw [List.map_fst_zip (by omega)]; exact ra) (by rw [List.map_snd_zip (by omega)]; exact rb), fun hm => ?_⟩
  rw [List.cons_append] at hm
  rcases List.mem_cons.mp hm with e | e
  · rw [← e] at hS
    simp at hS
  · rcases List.mem_append.mp e with e | e
    · exact hn e
    · exact hb e
theorem toRs_len : ∀ ds : List D, (toRs ds).length = ds.length
  | [] => rfl
  | d :: ds => by rw [toRs, List.length_cons, List.length_cons, toRs_len ds]
mutual
theorem Rep.reads (I : Inv X pins σ H s) (hs : sysB X.K = true) : ∀ {k : Nat} {d : D} {v : V} {u : Value}, rokD k d = true → Rep (kz X) g n H d v → RelV v u → ∃ as, Reads s.heap u (toR d) as ∧ sysModules ∉ as
  | _, .non, _, _, _, h, r => by
    cases (show _ = V.non from h)
    cases r
    exact ⟨[], .none, by simp⟩
  | _, .bl b, _, _, _, h, r => by
    cases (show _ = V.bl b from h)
    cases r
    exact ⟨[], .bool b, by simp⟩
  | _, .int i, _, _, _, h, r => by
    cases (show _ = V.int i from h)
    obtain ⟨t, rfl⟩ := r
    exact ⟨[], .int i t, by simp⟩
  | _, .str x, _, _, _, h, r => by
    cases (show _ = V.str x from h)
    obtain ⟨t, rfl⟩ := r
    exact ⟨[], .str x t, by simp⟩
  | k + 1, .tup ds, _, _, ok, ⟨a, vs, e, h, t⟩, r => by
    subst e
    cases r
    have ok' : rokDs k ds = true := ok
    exact tup_reads I h.sq fun us rv => Reps.reads I hs ok' t rv
  | k + 1, .lst ds, _, _, ok, ⟨a, vs, e, h, t⟩, r => by
    subst e
    cases r
    have ok' : rokDs k ds = true := ok
    exact lst_reads I hs h.1 fun us rv => Reps.reads I hs ok' t rv
  | k + 1, .dic ks es, _, _, ok, ⟨a, kk, ws, e, ⟨h, _⟩, t1, t2⟩, r => by
    subst e
    cases r
    have ok' : (decide (ks.length = es.length) && rokDs k ks && rokDs k es) = true := ok
    simp only [Bool.and_eq_true, decide_eq_true_eq] at ok'
    exact dic_reads I h (by rw [toRs_len, toRs_len]; exact ok'.1.1) (fun us rv => Reps.reads I hs ok'.1.2 t1 rv) fun us rv => Reps.reads I hs ok'.2 t2 rv
  | 0, .tup _, _, _, ok, _, _ => by cases ok
  | 0, .lst _, _, _, ok, _, _ => by cases ok
  | 0, .dic _ _, _, _, ok, _, _ => by cases ok
  | _, .obj _ _, _, _, ok, _, _ => by simp [rokD] at ok
  | _, .exc _ _, _, _, ok, _, _ => by simp [rokD] at ok
  | _, .cell _, _, _, ok, _, _ => by simp [rokD] at ok
  | _, .scr _, _, _, ok, _, _ => by simp [rokD] at ok
theorem Reps.reads (I : Inv X pins σ H s) (hs : sysB X.K = true) : ∀ {k : Nat} {ds : List D} {vs : List V} {us : List Value}, rokDs k ds = true → Reps (kz X) g n H ds vs → Vals vs us → ∃ as, ReadsAll s.heap us (toRs ds) as ∧ sysModules ∉ as
  | _, [], _, _, _, h, r => by
    cases h
    cases r
    exact ⟨[], .nil, by simp⟩
  | k, d :: ds, _, _, ok, ⟨v, r, e, h, t⟩, rv => by
    subst e
    cases rv with
    | cons r1 r2 =>
      have ok' : rokD k d = true ∧ rokDs k ds = true := by simpa only [rokDs, Bool.and_eq_true] using ok
      obtain ⟨as, ra, hn⟩ := Rep.reads I hs ok'.1 h r1
      obtain ⟨bs, rb, hb⟩ := Reps.reads I hs ok'.2 t r2
      exact ⟨as ++ bs, .cons ra rb, fun hm => (List.mem_append.mp hm).elim hn hb⟩
end
theorem Vw.reads (I : Inv X pins σ H s) (hs : sysB X.K = true) {k : Nat} {d : D} {v : V} {u : Value} (ok : rokD k d = true) (h : Vw (kz X) g n H d v) (r : RelV v u) : ∃ as, Reads s.heap u (toR d) as ∧ sysModules ∉ as := by
  cases d with
  | lst ds =>
    obtain ⟨a, vs, e, h, t⟩ := h
    subst e
    cases r
    match k, ok with
    | k + 1, ok => exact lst_reads I hs h fun us rv => Reps.reads I hs (show rokDs k ds = true from ok) t rv
  | dic ks es =>
    obtain ⟨a, kk, ws, e, h, t1, t2⟩ := h
    subst e
    cases r
    match k, ok with
    | k + 1, ok =>
      have ok' : (decide (ks.length = es.length) && rokDs k ks && rokDs k es) = true := ok
      simp only [Bool.and_eq_true, decide_eq_true_eq] at ok'
      exact dic_reads I h (by rw [toRs_len, toRs_len]; exact ok'.1.1) (fun us rv => Reps.reads I hs ok'.1.2 t1 rv) fun us rv => Reps.reads I hs ok'.2 t2 rv
  | obj c ds => simp [rokD] at ok
  | non => exact Rep.reads (g := g) (n := n) I hs ok h r
  | bl b => exact Rep.reads (g := g) (n := n) I hs ok h r
  | int i => exact Rep.reads (g := g) (n := n) I hs ok h r
  | str x => exact Rep.reads (g := g) (n := n) I hs ok h r
  | tup ds => exact Rep.reads (g := g) (n := n) I hs ok h r
  | exc c ds => exact Rep.reads (g := g) (n := n) I hs ok h r
  | cell l => exact Rep.reads (g := g) (n := n) I hs ok h r
  | scr ds => exact Rep.reads (g := g) (n := n) I hs ok h r
mutual
theorem depthR : ∀ {k : Nat} {d : D}, rokD k d = true → (toR d).depth ≤ k
  | _, .non, _ => Nat.zero_le _
  | _, .bl _, _ => Nat.zero_le _
  | _, .int _, _ => Nat.zero_le _
  | _, .str _, _ => Nat.zero_le _
  | k + 1, .tup ds, ok => by
    have z := depthRs (show rokDs k ds = true from ok)
    simp only [toR, PyData.depth]
    omega
  | k + 1, .lst ds, ok => by
    have z := depthRs (show rokDs k ds = true from ok)
    simp only [toR, PyData.depth]
    omega
  | k + 1, .dic ks es, ok => by
    have ok' : (decide (ks.length = es.length) && rokDs k ks && rokDs k es) = true := ok
    simp only [Bool.and_eq_true, decide_eq_true_eq] at ok'
    have z1 := depthRs ok'.1.2
    have z2 := depthRs ok'.2
    simp only [toR, PyData.depth]
    have z3 : PyData.depthKv ((toRs ks).zip (toRs es)) ≤ k := by
      clear ok ok'
      generalize toRs ks = a at z1 ⊢
      generalize toRs es = b at z2 ⊢
      induction a generalizing b with
      | nil => simp [PyData.depthKv]
      | cons x a ih =>
        cases b with
        | nil => simp [PyData.depthKv]
        | cons y b =>
          simp only [PyData.depthAll] at z1 z2
          have z4 := ih (by omega) b (by omega)
          simp only [List.zip_cons_cons, PyData.depthKv]
          omega
    omega
  | 0, .tup _, ok => by cases ok
  | 0, .lst _, ok => by cases ok
  | 0, .dic _ _, ok => by cases ok
  | _, .obj _ _, ok => by simp [rokD] at ok
  | _, .exc _ _, ok => by simp [rokD] at ok
  | _, .cell _, ok => by simp [rokD] at ok
  | _, .scr _, ok => by simp [rokD] at ok
theorem depthRs : ∀ {k : Nat} {ds : List D}, rokDs k ds = true → PyData.depthAll (toRs ds) ≤ k
  | _, [], _ => Nat.zero_le _
  | k, d :: ds, ok => by
    have ok' : rokD k d = true ∧ rokDs k ds = true := by simpa only [rokDs, Bool.and_eq_true] using ok
    have z1 := depthR ok'.1
    have z2 := depthRs ok'.2
    simp only [toRs, PyData.depthAll]
    omega
end
def rRepr (K : Kc) : List V → Hp → VK → Prop := fun vs H Q => ∃ v d, vs = [v] ∧ (∃ g n, Vw K g n H d v) ∧ rokD 50 d = true ∧ (toR d).showable = true ∧ (toR d).shown.length ≤ sizeLine ∧ Q (.str (toR d).shown) H
theorem cr_repr (hs : sysB X.K = true) (hg : X.A.guards = some []) (hu : X.A.units + 65 < cLine) : CallR X (.builtin "repr") (rRepr (kz X)) := by
  intro pins s σ H xs us Q I r h
  obtain ⟨v, d, rfl, ⟨g, n, hv⟩, ok, sh, sz, q⟩ := h
  obtain ⟨u, rfl, ru⟩ := vals1 r
  obtain ⟨as, rd, hn⟩ := Vw.reads I hs ok hv ru
  have hd := depthR ok
  generalize toR d = pd at rd sh sz q hd
  cases rd with
  | none => exact PySem.P.repr_of_none ⟨.str _, H, I.tok _, ⟨_, rfl⟩, q⟩
  | bool b => exact PySem.P.repr_of_bool ⟨.str _, H, I.tok _, ⟨_, rfl⟩, q⟩
  | int i t => exact PySem.P.repr_of_int (by simpa [PyData.showable] using sh) ⟨.str _, H, I.tok _, ⟨_, rfl⟩, q⟩
  | str x t => exact PySem.P.repr_of_str ⟨.str _, H, I.tok _, ⟨_, rfl⟩, q⟩ sz
  | list h1 h2 h3 h4 => exact repr_of_reads' (.list h1 h2 h3 h4) sh (fun _ => hn) hg (by omega) (fun _ _ e => e) (fun h' u tk hk => ⟨.str _, H, I.kept (t' := tk) hk, ⟨_, rfl⟩, q⟩) sz
  | tuple h1 h2 h3 h4 => exact repr_of_reads' (.tuple h1 h2 h3 h4) sh (fun _ => hn) hg (by omega) (fun _ _ e => e) (fun h' u tk hk => ⟨.str _, H, I.kept (t' := tk) hk, ⟨_, rfl⟩, q⟩) sz
  | dict h1 h2 h3 h4 h5 => exact repr_of_reads' (.dict h1 h2 h3 h4 h5) sh (fun _ => hn) hg (by omega) (fun _ _ e => e) (fun h' u tk hk => ⟨.str _, H, I.kept (t' := tk) hk, ⟨_, rfl⟩, q⟩) sz
theorem post_repr {K : Kc} {s : L2.St} {Q : VK} {vs : List V} (h : OpPost K s .repr false vs H Q) : rRepr K vs H Q := by
  obtain ⟨g, st, ds, Qd, A, r, w, hq⟩ := h
  obtain ⟨a, rfl, x, ex, q⟩ := any1_inv (show any1 ds (fun a => ∃ x, reprD a = some x ∧ Qd (.str x)) from w)
  obtain ⟨v, e2, r1⟩ := r.to1
  subst e2
  unfold reprD at ex
  split at ex
  · rename_i c
    simp only [Bool.and_eq_true, decide_eq_true_eq] at c
    injection ex with ex
    refine ⟨v, a, rfl, ⟨g, _, r1⟩, c.1.1, c.1.2, c.2, ?_⟩
    rw [ex]
    exact OpPost.plain A hq q rfl
  · cases ex

/-! ### t[::-1] of a tuple -/
def tRevA (K : PySem.W.Frag) (te : TE) : TE := fun σ H Q => te σ H fun x H1 => ∃ a xs, x = .ref a ∧ ((SqL K H1 a xs ∧ ∀ p, H1 p = none → Q (.ref p) (upd H1 p (.lst xs.reverse))) ∨ (SqT K H1 a xs ∧ ∀ p, H1 p = none → Q (.ref p) (upd H1 p (.tup xs.reverse))))
end
end Mp
namespace Mp
open PySem PySem.Spec L2
/-! ### an int in a list of anything: dicts, too -/
theorem dict_eq_declines_int (l : Addr) (es : Array DictEntry) (ep : Nat) (dd : Option Addr) (sl : Array (Option Value)) (b : Int) (u : Tok) :
    Meets (Builtin.«dict.__eq__» ⟨[.ref l, .int b u], []⟩) (fun _ R s => s.heap.get? l = some { cls := .type "dict", dict := dd, data := .dict es ep, slots := sl } ∧ R (.ok (.ret .notImplemented)) s) :=
  .of_wp fun prog w A R s h => by obtain ⟨hp, g, d, tk, os⟩ := s; obtain ⟨hl, h⟩ := h; have f1 := F.sub_int_dict; wp_walk using wpAny_loadPart' hl; exact ⟨_, rfl, h⟩
theorem int_eq_declines_dict (b : Int) (u : Tok) (l : Addr) (c : Value) (es : Array DictEntry) (ep : Nat) (dd : Option Addr) (sl : Array (Option Value)) :
    Meets (Builtin.«int.__eq__» ⟨[.int b u, .ref l], []⟩) (fun _ R s => s.heap.get? l = some { cls := c, dict := dd, data := .dict es ep, slots := sl } ∧ R (.ok (.ret .notImplemented)) s) :=
  .of_wp fun prog w A R s h => by obtain ⟨hp, g, d, tk, os⟩ := s; obtain ⟨hl, h⟩ := h; wp_walk using wpAny_loadPart' hl, wpAny_load hl; exact ⟨_, rfl, h⟩
theorem rcAt_dict_int {A : Around} {s : Shared} {l : Addr} {o : Obj} {es : Array DictEntry} {ep : Nat} (b : Int) (u : Tok) (ho : s.heap.get? l = some o) (hc : o.cls = .type "dict") (hd : o.data = .dict es ep) (hu : A.units < cLine) : SeqAt.RcAt A s (.ref l) (.int b u) false := fun prog w E Q h => by
  obtain ⟨cls, dd, data, sl⟩ := o
  simp only at hc hd
  subst hc hd
  exact SeqAt.rc_eq_decline_or (k := false) ⟨_, ho, rfl⟩ (typeIs_int s b u) (by decide) F.sub_int_dict F.slot_dict_eq F.slot_int_eq_refl
    (fun _ hq => call_meets F.slot_dict_eq ⟨_, ho, rfl⟩ F.entry_dict_eq (F.args_dict_eq_2 _ _) (dict_eq_declines_int l es ep dd sl b u) ⟨ho, hq⟩)
    (fun _ hq => call_meets F.slot_int_eq_refl (typeIs_int s b u) F.entry_int_eq (F.args_int_eq_2 _ _) (int_eq_declines_dict b u l (.type "dict") es ep dd sl) ⟨ho, hq⟩)
    (fun _ hq => wpAny_of_eq (rfl : isSame (.ref l) (.int b u) = pure false) hq) (.inr hu) h
theorem eqAt_dict_int {A : Around} {s : Shared} {l : Addr} {o : Obj} {es : Array DictEntry} {ep : Nat} (b : Int) (u : Tok) (ho : s.heap.get? l = some o) (hc : o.cls = .type "dict") (hd : o.data = .dict es ep) (hu : A.units < cLine) : SeqAt.EqAt A s (.ref l) (.int b u) false := fun prog w E Q h => by
  unfold eqBool
  refine wpAny_holding ?_
  refine wpAny_ite_split (fun hab => absurd (eq_of_beq hab) nofun) (fun _ => ?_)
  exact wpAny_bind (rcAt_dict_int b u ho hc hd hu prog w E _ (wpAny_truthy_bool h))
section
variable {K : Kc} {s : L2.St} {H : Hp} {Q : VK}
/-- what may be compared with an int -/
def FkV (K : PySem.W.Frag) (H : Hp) : V → Prop
  | .non => True
  | .bl _ => True
  | .int _ => True
  | .str _ => True
  | .ref a => (∃ xs, SqL K H a xs) ∨ (∃ xs, SqT K H a xs) ∨ ∃ kvs, H a = some (.dK kvs)
  | _ => False
def hitV (i : Int) : V → Bool
  | .int j => j == i
  | .bl b => b2iD b == i
  | _ => false
def rInM (K : PySem.W.Frag) (neg : Bool) : R2 := fun x y H Q => ∃ i a xs, x = .int i ∧ y = .ref a ∧ SqL K H a xs ∧ (∀ z ∈ xs, FkV K H z) ∧ Q (.bl (if neg = true then !xs.any (hitV i) else xs.any (hitV i))) H
theorem fk_of {g : Gh} {n : Nat} {i : Int} : ∀ {d : D} {v : V}, fkD d = true → Rep K g n H d v → FkV K.K H v ∧ hitV i v = eqD d (.int i)
  | .non, _, _, h => by cases h; exact ⟨trivial, by simp [hitV, eqD]⟩
  | .bl b, _, _, h => by cases h; exact ⟨trivial, by simp [hitV, eqD]⟩
  | .int j, _, _, h => by cases h; exact ⟨trivial, by simp [hitV, eqD]⟩
  | .str x, _, _, h => by cases h; exact ⟨trivial, by simp [hitV, eqD]⟩
  | .tup ds, _, _, ⟨a, vs, e, h, r⟩ => by subst e; exact ⟨.inr (.inl ⟨_, h.sq⟩), by simp [hitV, eqD]⟩
  | .lst ds, _, _, ⟨a, vs, e, h, r⟩ => by subst e; exact ⟨.inl ⟨_, .inl (.inl h.1)⟩, by simp [hitV, eqD]⟩
  | .dic ks es, _, _, ⟨a, kk, ws, e, ⟨⟨kvs, h, _⟩, _⟩, _⟩ => by subst e; exact ⟨.inr (.inr ⟨kvs, h⟩), by simp [hitV, eqD]⟩
  | .obj _ _, _, f, _ => by cases f
  | .exc _ _, _, f, _ => by cases f
  | .cell _, _, f, _ => by cases f
  | .scr _, _, f, _ => by cases f
theorem fks_of {g : Gh} {n : Nat} {i : Int} : ∀ {ds : List D} {vs : List V}, ds.all fkD = true → Reps K g n H ds vs → (∀ z ∈ vs, FkV K.K H z) ∧ vs.any (hitV i) = ds.any fun z => eqD z (.int i)
  | [], _, _, h => by cases h; exact ⟨(fun _ h => by cases h), rfl⟩
  | d :: ds, _, f, ⟨v, r, e, h, t⟩ => by
    subst e
    simp only [List.all_cons, Bool.and_eq_true] at f
    obtain ⟨a1, a2⟩ := fk_of (i := i) f.1 h
    obtain ⟨b1, b2⟩ := fks_of (i := i) f.2 t
    refine ⟨fun z hz => ?_, by rw [List.any_cons, List.any_cons, a2, b2]⟩
    rcases List.mem_cons.mp hz with rfl | hz
    · exact a1
    · exact b1 z hz
theorem post_inM {neg : Bool} {x y : V} {o : Op} (ho : ∀ ds Qd, opW o ds Qd = inMW neg ds Qd) (h : OpPost K s o false [x, y] H Q) : rInM K.K neg x y H Q := by
  obtain ⟨g, st, ds, Qd, A, r, w, hq⟩ := h
  rw [ho] at w
  unfold inMW at w
  split at w
  · obtain ⟨f, q⟩ := w
    obtain ⟨a', b', e2, r1, r2⟩ := r.two
    cases e2
    obtain ⟨b, ws, rfl, h2, t2⟩ := r2
    obtain ⟨c1, c2⟩ := fks_of f t2
    exact ⟨_, b, ws, r1, rfl, .inl (.inl h2), c1, OpPost.plain A hq q (by rw [c2]; cases neg <;> rfl)⟩
  · cases w
end
section
variable {X : Cx} {pins : List (Addr × Obj)} {σ : L2.St} {H : Hp} {s : Shared}
def hitU (i : Int) : Value → Bool
  | .int j _ => j == i
  | .bool b => (if b then 1 else 0) == i
  | _ => false
theorem fk_run (I : Inv X pins σ H s) {A : Around} (hu : A.units < cLine) {i : Int} {t : Tok} {z : V} {u : Value} (f : FkV X.K H z) (r : RelV z u) : SeqAt.EqAt A s u (.int i t) (hitU i u) ∧ hitU i u = hitV i z := by
  cases z with
  | non => cases (show u = Value.none from r); exact ⟨.none_int i t, rfl⟩
  | bl b => cases (show u = Value.bool b from r); exact ⟨.bool_int b i t, by cases b <;> rfl⟩
  | int j => obtain ⟨t', rfl⟩ := (show ∃ t, u = Value.int j t from r); exact ⟨.int_int j t' i t, rfl⟩
  | str x => obtain ⟨t', rfl⟩ := (show ∃ t, u = Value.str x t from r); exact ⟨.str_int x t' i t, rfl⟩
  | ref a =>
    cases (show u = Value.ref a from r)
    rcases f with ⟨xs, h⟩ | ⟨xs, h⟩ | ⟨kvs, h⟩
    · obtain ⟨us, r1, p1, _⟩ := I.list h
      exact ⟨.list_int i t p1.isList hu, rfl⟩
    · obtain ⟨us, r1, p1, _⟩ := I.tuple h
      exact ⟨.tuple_int i t p1 hu, rfl⟩
    · obtain ⟨_, _, vs, _, o, es, ep, e, c, d, _⟩ := I.hok a _ h
      exact ⟨eqAt_dict_int i t e c.1 d hu, rfl⟩
  | _ => exact f.elim
theorem fks_run (I : Inv X pins σ H s) {A : Around} (hu : A.units < cLine) {i : Int} {t : Tok} : ∀ {xs : List V} {us : List Value}, (∀ z ∈ xs, FkV X.K H z) → Vals xs us → (∀ u ∈ us, SeqAt.EqAt A s u (.int i t) (hitU i u)) ∧ us.any (hitU i) = xs.any (hitV i)
  | _, _, _, .nil => ⟨fun _ h => (by cases h), rfl⟩
  | _ :: _, _ :: _, f, .cons r t => by
    obtain ⟨a1, a2⟩ := fk_run I hu (f _ (List.mem_cons_self)) r
    obtain ⟨b1, b2⟩ := fks_run I hu (fun z hz => f z (List.mem_cons_of_mem _ hz)) t
    refine ⟨fun u hu => ?_, by rw [List.any_cons, List.any_cons, a2, b2]⟩
    rcases List.mem_cons.mp hu with rfl | hu
    · exact a1
    · exact b1 u hu
theorem op_inM (hu : X.A.units + 65 < cLine) : OpR X (compareOp .In) (rInM X.K false) := by
  intro pins s σ H x y v u Q I rx ry h
  obtain ⟨i, a, xs, rfl, rfl, ha, f, q⟩ := h
  obtain ⟨t, rfl⟩ := (show ∃ t, v = Value.int i t from rx)
  cases (show u = Value.ref a from ry)
  obtain ⟨us, r1, p1, _⟩ := I.list ha
  obtain ⟨b1, b2⟩ := fks_run I (A := X.A.in1) (i := i) (t := t) (by show X.A.units + 1 < cLine; omega) f r1
  refine SeqAt.in_listAt (hitU i) p1.isList (fun y hy => b1 y (by simpa using hy)) ⟨.bl _, H, I, ?_, q⟩
  show Value.bool _ = Value.bool _
  rw [← b2]
  simp
theorem op_ninM (hu : X.A.units + 65 < cLine) : OpR X (compareOp .NotIn) (rInM X.K true) := by
  intro pins s σ H x y v u Q I rx ry h
  obtain ⟨i, a, xs, rfl, rfl, ha, f, q⟩ := h
  obtain ⟨t, rfl⟩ := (show ∃ t, v = Value.int i t from rx)
  cases (show u = Value.ref a from ry)
  obtain ⟨us, r1, p1, _⟩ := I.list ha
  obtain ⟨b1, b2⟩ := fks_run I (A := X.A.in1) (i := i) (t := t) (by show X.A.units + 1 < cLine; omega) f r1
  refine SeqAt.notIn_listAt (hitU i) p1.isList (fun y hy => b1 y (by simpa using hy)) ⟨.bl _, H, I, ?_, q⟩
  show Value.bool _ = Value.bool _
  rw [← b2]
  simp
end
end Mp
namespace Mp
open PySem PySem.Spec PyProof.Rows L2 HT
/-! ### x[::-1] of a list, of a tuple -/
section
variable {prog : Program} {w : World} {A : Around} {E : Value → Shared → Prop} {s : Shared}
theorem rev_pick (xs : Array Value) : ((List.range xs.size).filterMap fun (m : Nat) => xs[(((xs.size : Int) - 1) + (m : Int) * (-1)).toNat]?).toArray = xs.toList.reverse.toArray := by
  congr 1
  apply List.ext_getElem?
  intro i
  have key : ∀ n, n ≤ xs.size → (List.range n).filterMap (fun (m : Nat) => xs[(((xs.size : Int) - 1) + (m : Int) * (-1)).toNat]?) = xs.toList.reverse.take n := by
    intro n
    induction n with
    | zero => intro _; rfl
    | succ n ih =>
      intro hn
      rw [List.range_succ, List.filterMap_append, ih (by omega)]
      have e : (((xs.size : Int) - 1) + (n : Int) * (-1)).toNat = xs.size - 1 - n := by omega
      have hl : n < xs.toList.reverse.length := by simp; omega
      rw [List.take_succ_eq_append_getElem hl]
      congr 1
      have e2 : xs[xs.size - 1 - n]? = some xs[xs.size - 1 - n] := Array.getElem?_eq_getElem (by omega)
      simp only [List.filterMap_cons, List.filterMap_nil, e, e2]
      simp
  rw [key xs.size (Nat.le_refl _), List.take_of_length_le (by simp)]
theorem getItem_tuple_rev {t sl : Addr} {items : Array Value} {vl vu vs : Value} {Q : Value → Shared → Prop} (ht : IsTup s.heap t items) (hs : s.heap.IsSliceOf sl vl vu vs) (pl : IsPart vl none) (pu : IsPart vu none) (ps : IsPart vs (some (-1)))
    (h : Q (.ref s.heap.objs.size) { s with heap := s.heap.push { cls := .type "tuple", data := .seq items.toList.reverse.toArray } })
    (hsz : items.size ≤ sizeLine) : wpAny (model prog w) A (getItem (.ref t) (.ref sl)) Q E s := by
  have htake : sizeOk (.seq items.toList.reverse.toArray) := by
    show items.toList.reverse.toArray.size ≤ sizeLine
    rw [List.size_toArray, List.length_reverse, Array.length_toList]
    omega
  obtain ⟨os, hos, hcs, hds⟩ := id hs
  have hTs : s.TypeIs (.ref sl) "slice" := ⟨os, hos, hcs⟩
  unfold getItem
  try with_reducible refine wpAny_holding ?_
  first | refine wpAny_bind (wpAny_pure ?_) | skip
  refine wpAny_bind (wpAny_sequenceKey ht.typeIs (by decide) ?_)
  refine wpAny_bind (wpAny_callSpecial?_slot (name := Str.ofString "__getitem__") ht.typeIs PyProof.Rows.slot_tuple_getitem
    (wpAny_call_entry PyProof.Rows.slot_tuple_getitem ht.typeIs PyProof.Rows.entry_tuple_getitem ?_ (PyProof.Rows.args_tuple_getitem _ _)))
  show wpAny _ _ (Builtin.Tuple.tupleItemsOf (.ref t) >>= _) _ _ s
  refine wpAny_bind (tupleItemsOf_ ht ?_)
  refine wpAny_bind (wpAny_typeOf hTs ?_)
  rw [if_pos (by decide)]
  have ap : ∀ (A : Around) (E : Value → Shared → Prop) (R : Int × Int × Nat → Shared → Prop), R ((items.size : Int) - 1, -1, items.size) s → wpAny (model prog w) A (Builtin.Slice.sliceApplied (.ref sl) (pure (items.size : Int))) R E s := fun A E R hR => by
    unfold Builtin.Slice.sliceApplied Builtin.Slice.sliceFields
    refine wpAny_bind (wpAny_bind (wpAny_field hos hds (x := vl) rfl (wpAny_bind (wpAny_field hos hds (x := vu) rfl (wpAny_bind (wpAny_field hos hds (x := vs) rfl (wpAny_pure ?_)))))))
    refine wpAny_bind (slicePart_ ps ?_)
    show wpAny _ _ (if ((-1 : Int) == 0) = true then _ else _) _ _ s
    rw [if_neg (by decide)]
    refine wpAny_bind (slicePart_ pl (wpAny_bind (slicePart_ pu (wpAny_bind (wpAny_pure ?_)))))
    show wpAny _ _ (match Builtin.Slice.sliceAdjust none none (-1) (items.size : Int) with | (lo, hi) => pure (lo, (-1 : Int), Builtin.Slice.slicePlaces lo hi (-1))) _ _ s
    have e1 : Builtin.Slice.sliceAdjust none none (-1) (items.size : Int) = ((items.size : Int) - 1, -1) := rfl
    rw [e1]
    have e2 : Builtin.Slice.slicePlaces ((items.size : Int) - 1) (-1) (-1) = items.size := by
      unfold Builtin.Slice.slicePlaces
      rw [if_neg (by decide)]
      by_cases h0 : ((items.size : Int) - 1) > -1
      · rw [if_pos h0]
        show (((items.size : Int) - 1 - -1 - 1) / 1 + 1).toNat = _
        rw [Int.ediv_one]
        omega
      · rw [if_neg h0]
        simp
        omega
    show wpAny _ _ (pure ((items.size : Int) - 1, (-1 : Int), Builtin.Slice.slicePlaces ((items.size : Int) - 1) (-1) (-1))) _ _ s
    rw [e2]
    exact wpAny_pure hR
  refine wpAny_bind (ap _ _ _ ?_)
  show wpAny _ _ (if (((items.size : Int) - 1) == 0 && (-1 : Int) == 1 && items.size == items.size) = true then _ else _) _ _ s
  rw [if_neg (by simp), rev_pick]
  first
    | exact wpAny_bind (m := Builtin.Tuple.tupleExact _) (wpAny_newObj_type (wpAny_pure ⟨_, rfl, wpAny_pure h⟩) htake)
    | exact wpAny_bind (m := Builtin.Tuple.tupleExact _) (wpAny_newObj_type (wpAny_bind (wpAny_pure (wpAny_pure ⟨_, rfl, wpAny_pure h⟩))) htake)
    | exact wpAny_bind (wpAny_bind (m := Builtin.Tuple.tupleExact _) (wpAny_newObj_type (wpAny_pure (wpAny_pure ⟨_, rfl, wpAny_pure h⟩)) htake))
    | exact wpAny_bind (wpAny_bind (m := Builtin.Tuple.tupleExact _) (wpAny_newObj_type (wpAny_pure ⟨_, rfl, wpAny_pure h⟩) htake))
end
section
variable {X : Cx} {ER : ExT} {Wx : WX} {C : Calls}
theorem pe_revA {e : Expr} {te : TE} {k : Nat} {p1 p2 p3 pos : Pos} (he : PE X e te) : PE X (.Subscript e (.Slice none none (some (.UnaryOp .USub (.Constant (.int 1) k p1) p2)) p3) pos) (tRevA X.K te) := by
  refine ⟨fun pins s σ H Q I h => ?_⟩
  refine Subscript_ (thn (he.run pins s σ H _ I h) fun v s1 ⟨x, H1, I1, r1, q1⟩ => ?_)
  obtain ⟨a, xs, ex, q⟩ := q1
  subst ex
  cases r1
  have hst : PO X (some (.UnaryOp .USub (.Constant (.int 1) k p1) p2)) (tPart (tUn (rU fun i => .int (-i)) (tC (.int 1)))) := po_some (pe_un un_neg pe_int)
  refine wpAny_Slice (thn (po_none.run pins s1 σ H1 (fun o H2 => o = none ∧ H2 = H1) I1 ⟨rfl, rfl⟩) fun vl s2 ⟨l, H2, I2, pl, el, e2⟩ => ?_)
  subst el e2
  refine thn (po_none.run pins s2 σ H2 (fun o H3 => o = none ∧ H3 = H2) I2 ⟨rfl, rfl⟩) fun vu s3 ⟨u, H3, I3, pu, eu, e3⟩ => ?_
  subst eu e3
  refine thn (hst.run pins s3 σ H3 (fun o H4 => o = some (-1) ∧ H4 = H3) I3 ⟨1, rfl, -1, rfl, rfl, rfl⟩) fun vs s4 ⟨o, H4, I4, ps, eo, e4⟩ => ?_
  subst eo e4
  have I5 : Inv X pins σ H4 { s4 with heap := s4.heap.push { cls := .type "slice", data := .fields #[vl, vu, vs] } } := I4.kept (t' := s4.toks) fun b ob q => Heap.get?_push_of_some _ q
  show wpAny (model X.prog X.w) X.A (subscriptTail e (.Slice none none (some (.UnaryOp .USub (.Constant (.int 1) k p1) p2)) p3) (.ref a) (.ref s4.heap.objs.size)) (EP X pins σ Q) X.xe { s4 with heap := s4.heap.push { cls := .type "slice", data := .fields #[vl, vu, vs] } }
  rcases q with ⟨hx, q⟩ | ⟨hx, q⟩
  · obtain ⟨its, r, ht, hz⟩ := I5.list hx
    have hlen := r.length
    refine tail_any (ops := [.ref a, .ref s4.heap.objs.size]) ht.isList.typeIs (PySem.slot_list_getitem.lookup) ?_ (by with_unfolding_all rfl)
    refine wpAny_getItem_list_slice ht.isList (Heap.IsSliceOf.new _ vl vu vs) pl pu ps (by decide) ?_ (by rw [List.size_toArray]; omega)
    rw [PySem.W.krv_pick]
    refine ⟨.ref _, _, I5.laid (t' := s4.toks) (o := .lst xs.reverse) (fun b ob q => Heap.get?_push_of_some _ q) (Nat.le_refl _) ?_, rfl, q _ (I5.hok.fresh (Nat.le_refl _))⟩
    exact ⟨by rw [List.length_reverse]; exact hz, _, 0, r.reverse, Heap.get?_push_size _ rfl⟩
  · obtain ⟨its, r, ht, hz⟩ := I5.tuple hx
    have hlen := r.length
    refine tail_any (ops := [.ref a, .ref s4.heap.objs.size]) ht.typeIs (PyProof.Rows.slot_tuple_getitem.lookup) ?_ (by with_unfolding_all rfl)
    refine getItem_tuple_rev ht (Heap.IsSliceOf.new _ vl vu vs) pl pu ps ?_ (by rw [List.size_toArray]; omega)
    refine ⟨.ref _, _, I5.laid (t' := s4.toks) (o := .tup xs.reverse) (fun b ob q => Heap.get?_push_of_some _ q) (Nat.le_refl _) ?_, rfl, q _ (I5.hok.fresh (Nat.le_refl _))⟩
    exact ⟨by rw [List.length_reverse]; exact hz, _, r.reverse, IsTup.new _ _⟩
theorem Reps.reverse {K : Kc} {g : Gh} {n : Nat} {H : Hp} : ∀ {ds : List D} {vs : List V}, Reps K g n H ds vs → Reps K g n H ds.reverse vs.reverse
  | [], _, h => by cases h; rfl
  | d :: ds, _, ⟨v, r, e, h, t⟩ => by
    subst e
    rw [List.reverse_cons, List.reverse_cons]
    exact (Reps.reverse t).append ⟨v, [], rfl, h, rfl⟩
/-- x[::-1] -/
theorem se_rev {a : Expr} {ta : Ex} {k : Nat} {p1 p2 p3 pos : Pos} (ha : SO X ER Wx C a ta) : SE X ER Wx C (.Subscript a (.Slice none none (some (.UnaryOp .USub (.Constant (.int 1) k p1) p2)) p3) pos) (.op .rev [ta]) false :=
  peImp (pe_revA ha) fun s H Q h => rdO_mono (rdE_op1 h) fun x H1 h1 => by
    obtain ⟨g, st, ds, Qd, A, r, w, hq⟩ := h1
    obtain ⟨a, rfl, r1⟩ := r.one
    have w' : revW a Qd := w
    unfold revW at w'
    split at w'
    · obtain ⟨p, vs, e, h, q⟩ := r1
      exact ⟨p, vs, e, .inl ⟨SqL.of h, fun l hl => new_lst A hq w' q.reverse hl⟩⟩
    · obtain ⟨p, vs, e, h, q⟩ := r1
      exact ⟨p, vs, e, .inr ⟨h.sq, fun l hl => new_tup A hq w' q.reverse hl⟩⟩
    · exact w'.elim
/-- a[i:j] -/
theorem rdE_op3 {K : Kc} {s : L2.St} {H : Hp} {Q : VK} {o : Op} {m : Bool} {a b c : Ex} (h : rdE K ER Wx (wE C (.op o [a, b, c])) m s H Q) : rdO K ER Wx C a s H fun x H1 => rdO K ER Wx C b s H1 fun y H2 => rdO K ER Wx C c s H2 fun z H3 => OpPost K s o m [x, y, z] H3 Q :=
  rdO_mono (split_cons (rdE_op h)) fun x H1 h1 => rdO_mono (split_cons h1) fun y H2 h2 => rdO_mono (split_cons h2) fun z H3 h3 => split_nil h3
end
end Mp
/-! the check that a text is a small program's -/
namespace Mp
open PySem PySem.Spec L2

/-- the shape of a call: how many by position, the keywords, what comes to the parameters -/
abbrev ShT := Nat × List Str × List (Sum Nat D)
structure Cz where
  N : List Str
  sc : List (Str × NameKind)
  fl : Option (List Str)
  glo : List (Str × D)
  fns : List (Str × Nat × Bool × List ShT)
  calm : Bool
  fr : Bool
  kn : List Nat
  xn : List Nat
  /-- classes that are made: the class, __init__'s number, how it is called -/
  mkc : List (Nat × Nat × List ShT)
  /-- methods: the class, the name, how it is asked, its number, how it is called -/
  mt : List (Nat × Str × MK × Nat × List ShT)

def bltNames : List Str := ["len", "abs", "max", "min", "int", "str", "repr", "list", "tuple", "isinstance", "range", "bool", "dict", "all", "any", "sum", "sorted", "set", "zip"]
def oddName (x : Str) : Bool := (x == ("__debug__" : Str)) || (x == ("__classdict__" : Str)) || decide (x = "__name__")
def visB (z : Cz) (x : Str) : Bool := match z.sc.lookup x with
  | some .local => true
  | some .cell => true
  | some .free => true
  | _ => false
def locB (z : Cz) (x : Str) : Bool := match z.sc.lookup x with
  | some .local => true
  | some .cell => (match z.fl with
    | none => true
    | some l => l.contains x)
  | _ => false
def glB (z : Cz) (x : Str) : Bool := decide (z.sc.lookup x = some .globalImplicit) && !oddName x
def slotOk (z : Cz) (e : Expr) (i : Nat) : Bool := match e with
  | .Name x _ => decide (z.N[i]? = some x) && visB z x && !oddName x
  | _ => false
def conEq : D → D → Bool
  | .non, .non => true
  | .bl a, .bl b => a == b
  | .int a, .int b => decide (a = b)
  | .str a, .str b => decide (a = b)
  | _, _ => false
theorem conEq_eq : ∀ {a b : D}, conEq a b = true → a = b ∧ ∃ v, conV a = some v
  | .non, .non, _ => ⟨rfl, _, rfl⟩
  | .bl a, .bl b, h => by
    have : a = b := by simpa [conEq] using h
    subst this; exact ⟨rfl, _, rfl⟩
  | .int a, .int b, h => by
    have : a = b := by simpa [conEq] using h
    subst this; exact ⟨rfl, _, rfl⟩
  | .str a, .str b, h => by
    have : a = b := by simpa [conEq] using h
    subst this; exact ⟨rfl, _, rfl⟩
def conOk (z : Cz) (e : Expr) (d : D) : Bool := match e with
  | .Constant (.int i) _ _ => conEq d (.int i)
  | .Constant (.bool b) _ _ => conEq d (.bl b)
  | .Constant .none _ _ => conEq d .non
  | .Constant (.str x) _ _ => conEq d (.str x)
  | .Name x _ => glB z x && z.glo.any fun p => decide (p.1 = x) && conEq p.2 d
  | _ => false
def binO : Operator → Option Op
  | .Add => some .add
  | .Sub => some .sub
  | .Mult => some .mul
  | .FloorDiv => some .fdiv
  | .Mod => some .mod
  | .Pow => some .pow
  | _ => none
def cmpO : CmpOp → Option Op
  | .Eq => some .eq
  | .NotEq => some .ne
  | .Lt => some .lt
  | .LtE => some .le
  | .Gt => some .gt
  | .GtE => some .ge
  | .In => some .in_
  | .NotIn => some .notIn
  | _ => none
/-- built-in functions by their names -/
def cmpOk (op : CmpOp) (o : Op) : Bool := decide (cmpO op = some o) || (decide (op = .Eq) && decide (o = .eqL)) || (decide (op = .NotEq) && decide (o = .neL)) || (decide (op = .In) && decide (o = .inM)) || (decide (op = .NotIn) && decide (o = .ninM))
def binOk (op : Operator) (o : Op) : Bool := decide (binO op = some o) || (decide (op = .FloorDiv) && decide (o = .fdivN)) || (decide (op = .Mod) && decide (o = .modN))
def bltO (x : Str) (n : Nat) : Option Op :=
  if x = "len" then some .len else if x = "abs" then some .abs else if x = "max" ∧ n = 2 then some .max2 else if x = "min" ∧ n = 2 then some .min2
  else if x = "int" then some .toInt else if x = "str" then some .toStr else if x = "repr" then some .repr else if x = "list" then some .toList else if x = "tuple" then some .toTuple
  else if x = "all" then some .all else if x = "any" then some .any else if x = "sum" then some .sum else if x = "max" then some .maxL else if x = "min" then some .minL else if x = "sorted" then some .sorted else none
/-- these are walked where no exception is handled -/
def needCalm : Op → Bool
  | .max2 => true
  | .min2 => true
  | .toList => true
  | .all => true
  | .any => true
  | .sum => true
  | .maxL => true
  | .minL => true
  | .repr => true
  | _ => false
/-- a class by its name -/
def tyE (z : Cz) (e : Expr) (t : Ty) : Bool := match e, t with
  | .Name y _, .own c => z.kn.contains c && decide (y = clsN c) && glB z y
  | .Name y _, t => decide (y = Str.ofString (tyName t)) && glB z y && bltNames.contains y
  | _, _ => false
def tyEs (z : Cz) : List Expr → List Ty → Bool
  | [], [] => true
  | e :: es, t :: ts => tyE z e t && tyEs z es ts
  | _, _ => false
/-- a text's method, of a constant -/
def mtCO (x : Str) : Option Op := if x = "join" then some .join else if x = "find" then some .find else if x = "startswith" then some .starts else none
/-- a text's method, with a constant -/
def mtAO (x : Str) : Option Op := if x = "split" then some .split else if x = "removeprefix" then some .rmpre else if x = "startswith" then some .starts else if x = "find" then some .find else none
def isStrC : Expr → Option Str
  | .Constant (.str x) _ _ => some x
  | _ => none
def conS : Ex → Option Str
  | .con (.str x) => some x
  | _ => none
def cA (r : Expr → Ex → Bool) : List Expr → List Ex → Bool
  | [], [] => true
  | e :: es, t :: ts => notStar e && r e t && cA r es ts
  | _, _ => false
def cK (r : Expr → Ex → Bool) : List Keyword → List Ex → Bool
  | [], [] => true
  | ⟨_, e, _⟩ :: es, t :: ts => r e t && cK r es ts
  | _, _ => false
/-- a default: a constant, or () -/
def dfEq : D → D → Bool
  | .tup [], .tup [] => true
  | a, b => conEq a b
theorem dfEq_eq {a b : D} (h : dfEq a b = true) : a = b := by
  unfold dfEq at h
  split at h
  · rfl
  · exact (conEq_eq h).1
def arEq : List (Sum Nat D) → List (Sum Nat D) → Bool
  | [], [] => true
  | .inl a :: as, .inl b :: bs => decide (a = b) && arEq as bs
  | .inr a :: as, .inr b :: bs => dfEq a b && arEq as bs
  | _, _ => false
theorem arEq_eq : ∀ {a b : List (Sum Nat D)}, arEq a b = true → a = b
  | [], [], _ => rfl
  | .inl a :: as, .inl b :: bs, h => by
    have h' : a = b ∧ arEq as bs = true := by simpa [arEq] using h
    rw [h'.1, arEq_eq h'.2]
  | .inr a :: as, .inr b :: bs, h => by
    have h' : dfEq a b = true ∧ arEq as bs = true := by simpa [arEq] using h
    rw [dfEq_eq h'.1, arEq_eq h'.2]
/-- a display with stars -/
def cDs (r : Expr → Ex → Bool) : List Expr → List Bool → List Ex → Bool
  | [], [], [] => true
  | e :: es, b :: fl, t :: ts => (match b, e with
    | true, .Starred x _ => r x t
    | false, x => notStar x && r x t
    | _, _ => false) && cDs r es fl ts
  | _, _, _ => false
/-- the parts of an f-string -/
def cFs (r : Expr → Ex → Bool) : List Expr → List Ex → Bool
  | [], [] => true
  | e :: es, t :: ts => (match e with
    | .Constant (.str x) _ _ => (match t with
      | .con (.str y) => decide (x = y)
      | _ => false)
    | .FormattedValue x c none _ => decide (c = -1) && r x t
    | _ => false) && cFs r es ts
  | _, _ => false
def isCst : Expr → Bool
  | .Constant _ _ _ => true
  | _ => false
def isNone : Expr → Bool
  | .Constant .none _ _ => true
  | _ => false
def tyOf : Expr → Option (Str)
  | .Name x _ => some x
  | _ => none
def notSlice : Expr → Bool
  | .Slice _ _ _ _ => false
  | _ => true
/-- operations; r: the check of an operand -/
def opOk (r : Expr → Ex → Bool) (z : Cz) (m : Bool) (e : Expr) (o : Op) (ts : List Ex) : Bool := match e with
  | .BinOp a op b _ => !m && binOk op o && (match ts with
    | [ta, tb] => r a ta && r b tb
    | _ => false)
  | .UnaryOp .USub a _ => !m && decide (o = .neg) && (match ts with
    | [ta] => r a ta
    | _ => false)
  | .Compare a [op] [b] _ => !m && (match ts with
    | [ta, tb] => cmpOk op o && r a ta && r b tb && !behindInMarks op b
    | [ta] => r a ta && (match b with
      | .Constant .none _ _ => (decide (op = .Is) && decide (o = .isN)) || (decide (op = .IsNot) && decide (o = .isNotN))
      | .Constant (.bool k) _ _ => (decide (op = .Is) && decide (o = if k then .isT else .isF)) || (decide (op = .IsNot) && decide (o = if k then .isNT else .isNF))
      | _ => false)
    | _ => false)
  | .Subscript a (.Slice lo hi none _) _ => !m && decide (o = .sl lo.isSome hi.isSome) && (match lo, hi, ts with
    | none, none, [ta] => r a ta
    | some x, none, [ta, tb] => r a ta && r x tb
    | none, some x, [ta, tb] => r a ta && r x tb
    | _, _, _ => false)
  | .Subscript a (.Slice none none (some (.UnaryOp .USub (.Constant (.int k) _ _) _)) _) _ => !m && decide (o = .rev) && decide (k = 1) && (match ts with
    | [ta] => r a ta
    | _ => false)
  | .Subscript a b _ => !m && decide (o = .item) && notSlice b && (match ts with
    | [ta, tb] => r a ta && r b tb
    | _ => false)
  | .Attribute a f _ => !m && decide (o = .fld f) && baseOk a && (match ts with
    | [ta] => r a ta
    | _ => false)
  | .Call (.Attribute a name apos) [x] [] pos => (apos.endLine == pos.line) && (match ts with
    | [ta, tx] => (match isStrC a, conS ta with
      | some z1, some z2 => decide (z1 = z2) && notStar x && r x tx && !m && (decide (mtCO name = some o) || (decide (name = "index") && decide (o = .index) && z.calm))
      | _, _ => (match isStrC x, conS tx with
        | some z1, some z2 => decide (z1 = z2) && baseOk a && r a ta && decide (mtAO name = some o) && (!m || decide (o = .split))
        | _, _ => false))
    | _ => false)
  | .Call (.Name x _) (a :: as) [] _ => glB z x && bltNames.contains x && (
    (decide (bltO x (as.length + 1) = some o) && (!m || decide (o = .toList) || decide (o = .sorted)) && (z.calm || !needCalm o) && cA r (a :: as) ts) ||
    (!m && decide (x = "isinstance") && notStar a && (match o, as, ts with
      | .isi [t] false, [c], [ta] => r a ta && tyE z c t
      | .isi us true, [.Tuple cs _ _], [ta] => r a ta && tyEs z cs us && decide (us.length ≤ 1000)
      | _, _, _ => false)) ||
    (decide (x = "list") && z.calm && (match a, as, o, ts with
      | .Call (.Name y _) [b] [] _, [], .rng1, [tb] => decide (y = "range") && glB z y && notStar b && r b tb
      | .Call (.Name y _) [b, c] [] _, [], .rng2, [tb, tc] => decide (y = "range") && glB z y && notStar b && notStar c && r b tb && r c tc
      | _, _, _, _ => false)) ||
    (decide (x = "sorted") && z.calm && (match a, as, o, ts with
      | .Call (.Name y _) [b] [] _, [], .diff false, [tb] => decide (y = "set") && glB z y && notStar b && r b tb
      | _, _, _, _ => false)) ||
    (decide (x = "tuple") && !m && z.calm && (match a, as, o, ts with
      | .Call (.Name y _) [.Call (.Name u _) [b] [] _] [] _, [], .diff true, [tb] => decide (y = "sorted") && glB z y && decide (u = "set") && glB z u && notStar b && r b tb
      | _, _, _, _ => false)))
  | _ => false
def relN (names sc : List (Str × NameKind)) : List (Str × NameKind) := names.map fun (n, k) => if (k == .free && sc.lookup n == some .cell) then (n, .cell) else (n, k)
def Cz.blk (z : Cz) (names : List (Str × NameKind)) : Cz := { z with sc := relN names z.sc, fl := some (names.filterMap fun p => if p.2 = .cell then some p.1 else none) }
def ownOf (N : List Str) (own : List Nat) : List (Str × Nat) := own.filterMap fun i => (N[i]?).map fun x => (x, i)
def blkOk (z : Cz) (scope : Scope) (own : List Nat) : Bool :=
  decide (scope.kind = .function) && scope.names.all (fun y => decide (scope.names.lookup y.1 = some y.2)) && decide ((ownOf z.N own).map (·.2) = own) &&
  scope.names.all (fun y => decide (y.2 ≠ .free) || decide (z.sc.lookup y.1 = some .cell) || decide (z.sc.lookup y.1 = some .free)) &&
  scope.names.all (fun y => !(decide (y.2 = .local) || decide (y.2 = .cell)) || ((ownOf z.N own).map (·.1)).contains y.1 || !z.N.contains y.1)
mutual
def cG (z : Cz) : Expr → Tg → Bool
  | .Name x _, .nm i => decide (z.N[i]? = some x) && locB z x
  | .Tuple es _ _, .tp ts => z.calm && cGs z es ts
  | _, _ => false
def cGs (z : Cz) : List Expr → List Tg → Bool
  | [], [] => true
  | e :: es, t :: ts => notStar e && cG z e t && cGs z es ts
  | _, _ => false
end
/-- what is walked; r: the check of a value -/
def cI (r : Expr → Ex → Bool) (z : Cz) (iter : Expr) : ItK → List Ex → Bool
  | .seq, [t] => r iter t
  | .range1, [t] => (match iter with
    | .Call (.Name x _) [a] [] _ => decide (x = "range") && glB z x && notStar a && r a t
    | _ => false)
  | .zip2, [t, u] => (match iter with
    | .Call (.Name x _) [a, b] [] _ => decide (x = "zip") && glB z x && notStar a && notStar b && r a t && r b u
    | _ => false)
  | .range2, [t, u] => (match iter with
    | .Call (.Name x _) [a, b] [] _ => decide (x = "range") && glB z x && notStar a && notStar b && r a t && r b u
    | _ => false)
  | _, _ => false
def notSet : Expr → Bool
  | .Set _ _ _ => false
  | _ => true
/-- a test of and, or -/
def cW (r : Expr → Ex → Bool) (op : BoolOp) : List Expr → Ex → Bool
  | [a], t => r a t
  | a :: b :: l, t => (match op, t with
    | .And, .tAnd ta tb => r a ta && cW r op (b :: l) tb
    | .Or, .tOr ta tb => r a ta && cW r op (b :: l) tb
    | _, _ => false)
  | [], _ => false
def subEx (r : Cz → Expr → Ex → Bool) (rT : Cz → Expr → Ex → Bool) (z : Cz) (own : List Nat) (e : Expr) (k : ItK) (src : List Ex) (tg : Tg) (ifs : List Ex) (elt : Ex) : Bool := match e with
  | .ListComp x [⟨tge, iter, fs, 0⟩] scope _ => z.calm && blkOk z scope own && cI (r z) z iter k src && notSet iter && cG (z.blk scope.names) tge tg && (tgI tg).all (fun i => own.contains i) &&
    (match fs, ifs with
    | [], [] => true
    | [f], [t] => rT (z.blk scope.names) f t
    | _, _ => false) && r (z.blk scope.names) x elt
  | _ => false
def fnOkB (z : Cz) (m : Bool) (x : Str) (f n : Nat) (ks : List Str) (ar : List (Sum Nat D)) : Bool := match z.fns.lookup x with
  | some (g, fr, sh) => decide (g = f) && (fr || !m) && sh.any fun q => decide (q.1 = n) && decide (q.2.1 = ks) && arEq q.2.2 ar
  | none => false
def shB (sh : List ShT) (n : Nat) (ks : List Str) (ar : List (Sum Nat D)) : Bool := sh.any fun q => decide (q.1 = n) && decide (q.2.1 = ks) && arEq q.2.2 ar
def mkB (z : Cz) (c f n : Nat) (ks : List Str) (ar : List (Sum Nat D)) : Bool := z.mkc.any fun q => decide (q.1 = c) && decide (q.2.1 = f) && shB q.2.2 n ks ar
def mtB (z : Cz) (c : Nat) (x : Str) (k : MK) (f n : Nat) (ks : List Str) (ar : List (Sum Nat D)) : Bool := z.mt.any fun q => decide (q.1 = c) && decide (q.2.1 = x) && decide (q.2.2.1 = k) && decide (q.2.2.2.1 = f) && shB q.2.2.2.2 n ks ar
/-- x in o, x not in o, o == x; r: the check of a value -/
def cmB (r : Expr → Ex → Bool) (z : Cz) (a : Expr) (op : CmpOp) (b : Expr) (k : MK) (c f : Nat) (ts : List Ex) (ar : List (Sum Nat D)) : Bool := z.calm && !behindInMarks op b && notStar b && (match ts with
  | [ta, tb] => r a ta && r b tb && (match k with
    | .in_ => decide (op = .In) && arEq [.inl 1, .inl 0] ar && mtB z c "__contains__" .in_ f 2 [] [.inl 0, .inl 1]
    | .notIn => decide (op = .NotIn) && arEq [.inl 1, .inl 0] ar && mtB z c "__contains__" .in_ f 2 [] [.inl 0, .inl 1]
    | .eq => decide (op = .Eq) && arEq [.inl 0, .inl 1] ar && mtB z c "__eq__" .eq f 2 [] [.inl 0, .inl 1]
    | _ => false)
  | _ => false)
mutual
/-- the text's expression is the small one -/
def cE : Nat → Cz → Bool → Expr → Ex → Bool
  | 0, _, _, _, _ => false
  | n + 1, z, m, e, t => match t with
    | .con d => conOk z e d && (!m || isCst e)
    | .var i => !m && slotOk z e i
    | .mov i => m && slotOk z e i
    | .op o ts => opOk (cO n z) z m e o ts
    | .tup ts => !m && (match e with
      | .Tuple es _ _ => cA (cE n z false) es ts
      | _ => false)
    | .lst ts => (match e with
      | .List es _ => cA (cE n z false) es ts
      | _ => false)
    | .disp true fl ts => !m && (match e with
      | .Tuple es _ _ => cDs (cE n z false) es fl ts
      | _ => false)
    | .disp false fl ts => (match e with
      | .List es _ => cDs (cE n z false) es fl ts
      | _ => false)
    | .fst ts => !m && (match e with
      | .JoinedStr (a :: b :: es) _ => cFs (cE n z false) (a :: b :: es) ts
      | _ => false)
    | .dct ks vs => (match e, ks, vs with
      | .Dict [] [] _, [], [] => true
      | .Dict [some k] [v] _, [tk], [tv] => cE n z false k tk && cE n z false v tv
      | _, _, _ => false)
    | .andV a b => !m && (match e with
      | .BoolOp .And (x :: y :: []) _ => cE n z false x a && cE n z false y b
      | .BoolOp .And (x :: y :: w :: l) p => cE n z false x a && cE n z false (.BoolOp .And (y :: w :: l) p) b
      | _ => false)
    | .orV a b => !m && (match e with
      | .BoolOp .Or (x :: y :: []) _ => cE n z false x a && cE n z false y b
      | .BoolOp .Or (x :: y :: w :: l) p => cE n z false x a && cE n z false (.BoolOp .Or (y :: w :: l) p) b
      | _ => false)
    | .notV a => !m && (match e with
      | .UnaryOp .Not x _ => cE n z false x a
      | _ => false)
    | .ite c a b => (match e with
      | .IfExp x y w _ => cT n z x c && cE n z m y a && cE n z m w b
      | _ => false)
    | .chn p q a b c => !m && (match e with
      | .Compare x [o1, o2] [y, w] _ => cmpOk o1 p && cmpOk o2 q && cE n z false x a && cE n z false y b && cE n z false w c && !lastMarks [o1, o2] [y, w]
      | _ => false)
    | .call f ts ar => z.calm && (match e with
      | .Call (.Name x _) es kws _ => glB z x && fnOkB z m x f es.length (kws.filterMap (·.arg)) ar &&
        arOk ts.length ar && kws.all (·.arg.isSome) && cA (cE n z false) es (ts.take es.length) && cK (cE n z false) kws (ts.drop es.length)
      | _ => false)
    | .cel a => !m && cE n z true e a
    | .pop i a => !m && (match e with
      | .Call (.Attribute o x apos) [y] [] pos => decide (x = "pop") && slotOk z o i && notStar y && cE n z false y a && (apos.endLine == pos.line)
      | _ => false)
    | .xfl i f => !m && (match e with
      | .Attribute o x _ => decide (x = f) && slotOk z o i
      | _ => false)
    | .xis i k => !m && (match e with
      | .Call (.Name y _) [o, .Name x _] [] _ => decide (y = "isinstance") && glB z y && slotOk z o i && decide (x = clsN k) && glB z x && z.xn.contains k
      | _ => false)
    | .lc k src tg ifs elt own => subEx (fun z e t => cE n z false e t) (cT n) z own e k src tg ifs elt
    | .make c _ f ts ar => z.calm && !m && (match e with
      | .Call (.Name x _) es kws _ => glB z x && decide (x = clsN c) && mkB z c f (es.length + 1) (kws.filterMap (·.arg)) ar &&
        arOk (ts.length + 1) ar && kws.all (·.arg.isSome) && cA (cE n z false) es (ts.take es.length) && cK (cE n z false) kws (ts.drop es.length)
      | _ => false)
    | .meth k c f ts ar => !m && z.calm && (match e, k, ts with
      | .Call (.Attribute o x apos) es kws pos, .dot, r :: us => mtB z c x .dot f (es.length + 1) (kws.filterMap (·.arg)) ar && arOk (us.length + 1) ar && kws.all (·.arg.isSome) && baseOk o && (apos.endLine == pos.line) && decide (es.length + kws.length < 29) &&
        cE n z false o r && cA (cE n z false) es (us.take es.length) && cK (cE n z false) kws (us.drop es.length)
      | .Attribute o x _, .prop, [r] => mtB z c x .prop f 1 [] [.inl 0] && arEq [.inl 0] ar && baseOk o && cE n z false o r
      | .Call (.Name x _) [o] [] _, .len, [r] => decide (x = "len") && glB z x && mtB z c "__len__" .len f 1 [] [.inl 0] && arEq [.inl 0] ar && notStar o && cE n z false o r
      | .Call (.Name x _) [o] [] _, .str, [r] => decide (x = "str") && glB z x && mtB z c "__str__" .str f 1 [] [.inl 0] && arEq [.inl 0] ar && notStar o && cE n z false o r
      | .UnaryOp .USub o _, .neg, [r] => mtB z c "__neg__" .neg f 1 [] [.inl 0] && arEq [.inl 0] ar && cE n z false o r
      | .Compare a [op] [b] _, k, ts => cmB (cE n z false) z a op b k c f ts ar
      | _, _, _ => false)
    | _ => false
def cO : Nat → Cz → Expr → Ex → Bool
  | 0, _, _, _ => false
  | n + 1, z, e, t => match t with
    | .brw i => slotOk z e i
    | t => cE n z false e t
def cT : Nat → Cz → Expr → Ex → Bool
  | 0, _, _, _ => false
  | n + 1, z, e, t => match e with
    | .BoolOp op es _ => cW (cT n z) op es t
    | .UnaryOp .Not x _ => (match t with
      | .tNot a => cT n z x a
      | _ => false)
    | .Compare a [op] [b] _ => (match t with
      | .tb (.op o [ta, tb]) => cmpOk op o && cO n z a ta && cO n z b tb && !behindInMarks op b
      | .tb (.op o [ta]) => cO n z a ta && (match b with
        | .Constant .none _ _ => (decide (op = .Is) && decide (o = .isN)) || (decide (op = .IsNot) && decide (o = .isNotN))
        | .Constant (.bool k) _ _ => (decide (op = .Is) && decide (o = if k then .isT else .isF)) || (decide (op = .IsNot) && decide (o = if k then .isNT else .isNF))
        | _ => false)
      | .tb (.meth k c f ts ar) => cmB (cE n z false) z a op b k c f ts ar
      | _ => false)
    | .Compare x [o1, o2] [y, w] _ => (match t with
      | .tb (.chn p q a b c) => cmpOk o1 p && cmpOk o2 q && cE n z false x a && cE n z false y b && cE n z false w c && !lastMarks [o1, o2] [y, w]
      | _ => false)
    | e => (match t with
      | .tru a => plainT e && cE n z false e a
      | _ => false)
end
end Mp
namespace Mp
open PySem PySem.Spec L2

/-- a class that is made -/
def MkOk (X : Cx) (ER : ExT) (C : Calls) (c f : Nat) (sh : List ShT) : Prop := ∃ (k : Nat) (fx : Addr) (fd : FuncData) (ps : List Str), isKnown X.K c = true ∧ X.mg (clsN c) = some (.ref (He.ga X.K (clsN c))) ∧ Mk X.K (He.ga X.K (clsN c)) fx ∧
  FnG X.prog X.w X.K X.mg X.base (L2.CX X.prog X.w) k fx fd ps (spF ⟨X.K, none⟩ ER C false f ps.length) ∧ RoomG (k + 2) X.A ∧ ∀ q ∈ sh, Shp X.K fd ps q.1 q.2.1 q.2.2 ∧ q.2.2.length = ps.length
/-- where a method stands -/
def MtAt (K : PySem.W.Frag) (c : Nat) (x : Str) (fx : Addr) (fd : FuncData) (ps : List Str) : MK → Prop
  | .dot => Meth K (He.ga K (clsN c)) x fx ∧ x ∉ fldsOf c
  | .prop => (∃ pr, PropOf K (He.ga K (clsN c)) x pr fx) ∧ Binds K fd ps []
  | _ => Dun K c x fx
def MtOk (X : Cx) (ER : ExT) (C : Calls) (c : Nat) (x : Str) (kd : MK) (f : Nat) (sh : List ShT) : Prop := ∃ (k : Nat) (fx : Addr) (fd : FuncData) (ps : List Str), isKnown X.K c = true ∧ MtAt X.K c x fx fd ps kd ∧
  FnG X.prog X.w X.K X.mg X.base (L2.CX X.prog X.w) k fx fd ps (spF ⟨X.K, none⟩ ER C false f ps.length) ∧ RoomG (k + 2) X.A ∧ ∀ q ∈ sh, Shp X.K fd ps q.1 q.2.1 q.2.2 ∧ q.2.2.length = ps.length
/-- the context is as the check has it -/
structure CxOk (X : Cx) (ER : ExT) (Wx : WX) (C : Calls) (z : Cz) : Prop where
  nd : X.N.Nodup
  hN : X.N = z.N
  calm : z.calm = true → X.calm = true
  kd : X.env.scope.kind = .function
  sc : X.env.scope.names = z.sc
  fn : match z.fl with
    | none => ∀ x, X.fn x = true
    | some l => ∀ x ∈ l, X.fn x = true
  un : X.A.units + 65 < cLine
  blt : ∀ x ∈ bltNames, X.mg x = none
  glo : ∀ p ∈ z.glo, ∃ v, conV p.2 = some v ∧ ∃ u, X.mg p.1 = some u ∧ RelV v u
  rm : z.calm = true → ∃ k, RoomG k X.A
  fns : z.calm = true → ∀ x f fr sh, z.fns.lookup x = some (f, fr, sh) → ∃ (k : Nat) (fx : Addr) (fd : FuncData) (ps : List Str), FnG X.prog X.w X.K X.mg X.base (L2.CX X.prog X.w) k fx fd ps (spF ⟨X.K, none⟩ ER C fr f ps.length) ∧ RoomG k X.A ∧ X.mg x = some (.ref fx) ∧ PySem.W.keepIn X.K (.ref fx) = true ∧
    ∀ q ∈ sh, Shp X.K fd ps q.1 q.2.1 q.2.2 ∧ q.2.2.length = ps.length
  tk : Takes X Wx
  er : ER = ERx ⟨X.K, none⟩
  kit : KitB X.K = true
  sy : sysB X.K = true
  ekit : ErrKit X.K X.prog.main.file = true
  htop : (X.prog.main.scope.names.lookup ("super" : Str)).isSome = false
  kn : ∀ c ∈ z.kn, isKnown X.K c = true ∧ X.mg (clsN c) = some (.ref (He.ga X.K (clsN c)))
  xn : ∀ c ∈ z.xn, isKnownX X.K c = true ∧ X.mg (clsN c) = some (.ref (He.ga X.K (clsN c)))
  mkc : z.calm = true → ∀ q ∈ z.mkc, MkOk X ER C q.1 q.2.1 q.2.2
  mt : z.calm = true → ∀ q ∈ z.mt, MtOk X ER C q.1 q.2.1 q.2.2.1 q.2.2.2.1 q.2.2.2.2

section
variable {X : Cx} {ER : ExT} {Wx : WX} {C : Calls} {z : Cz} {m : Bool}
theorem odd_inv {x : Str} (h : oddName x = false) : (x == ("__debug__" : Str)) = false ∧ (x == ("__classdict__" : Str)) = false ∧ x ≠ "__name__" := by
  unfold oddName at h
  simp only [Bool.or_eq_false_iff, decide_eq_false_iff_not] at h
  exact ⟨h.1.1, h.1.2, h.2⟩
theorem CxOk.vis (ok : CxOk X ER Wx C z) {x : Str} (h : visB z x = true) : Vis X.env.scope x := by
  unfold visB at h
  unfold Vis
  rw [ok.sc]
  split at h
  · rename_i e; exact .inl e
  · rename_i e; exact .inr (.inl e)
  · rename_i e; exact .inr (.inr e)
  · cases h
theorem CxOk.gl (ok : CxOk X ER Wx C z) {x : Str} (h : glB z x = true) : Gl X x ∧ oddName x = false := by
  unfold glB at h
  have h' : z.sc.lookup x = some .globalImplicit ∧ oddName x = false := by simpa using h
  refine ⟨?_, h'.2⟩
  show X.env.scope.names.lookup x = _
  rw [ok.sc]
  exact h'.1
theorem slot_inv {e : Expr} {i : Nat} (ok : CxOk X ER Wx C z) (h : slotOk z e i = true) : ∃ x p, e = .Name x p ∧ X.N[i]? = some x ∧ Vis X.env.scope x ∧ (x == ("__debug__" : Str)) = false ∧ (x == ("__classdict__" : Str)) = false := by
  unfold slotOk at h
  split at h
  · rename_i x p
    have h' : (z.N[i]? = some x ∧ visB z x = true) ∧ oddName x = false := by simpa using h
    obtain ⟨o1, o2, _⟩ := odd_inv h'.2
    exact ⟨x, p, rfl, by rw [ok.hN]; exact h'.1.1, ok.vis h'.1.2, o1, o2⟩
  · cases h
theorem con_ok {e : Expr} {d : D} (ok : CxOk X ER Wx C z) (h : conOk z e d = true) (hm : m = false ∨ isCst e = true) : SE X ER Wx C e (.con d) m := by
  unfold conOk at h
  split at h
  · rw [(conEq_eq h).1]; exact se_int
  · rw [(conEq_eq h).1]; exact se_bl
  · rw [(conEq_eq h).1]; exact se_non
  · rw [(conEq_eq h).1]; exact se_str
  · rename_i x p
    obtain rfl : m = false := hm.elim id (fun z => by cases z)
    simp only [Bool.and_eq_true] at h
    obtain ⟨hg, ho⟩ := ok.gl h.1
    obtain ⟨q, hq, h2⟩ := List.any_eq_true.mp h.2
    have h3 : q.1 = x ∧ conEq q.2 d = true := by simpa using h2
    obtain ⟨v, e1, u, e2, r⟩ := ok.glo q hq
    obtain ⟨e3, _⟩ := conEq_eq h3.2
    rw [e3] at e1
    rw [h3.1] at e2
    exact se_glo hg e2 r (fun _ _ _ => Rep.con e1) (odd_inv ho).1
  · cases h
theorem bin_ok {op : Operator} {o : Op} (h : binO op = some o) : ∃ r, OpR X (binaryOp op) r ∧ ∀ {s H Q x y}, OpPost (kz X) s o false [x, y] H Q → r x y H Q := by
  cases op <;> first | (cases h; done) | skip
  · cases h; exact ⟨_, op_add.or (op_add_str.or (op_cat.or op_catA)), fun h => post_add h rfl⟩
  · cases h; exact ⟨_, op_sub, fun h => post_i0 (o := .sub) (f := fun i j => .int (i - j)) (fun _ _ w => w) (fun _ _ _ _ _ => rfl) h⟩
  · cases h; exact ⟨_, op_mul.or (op_rep.or op_mulS), fun h => post_mul h⟩
  · cases h; exact ⟨_, op_mod, fun h => post_i2 (o := .mod) (P := fun _ j => 0 < j) (f := fun i j => .int (i % j)) (fun _ _ w => w) (fun _ _ _ _ _ => rfl) h⟩
  · cases h; exact ⟨_, op_pow, fun h => post_i2 (o := .pow) (P := CPow) (f := fun i j => .int (i ^ j.toNat)) (fun _ _ w => w) (fun _ _ _ _ _ => rfl) h⟩
  · cases h; exact ⟨_, op_fdivW, fun h => post_i2 (o := .fdiv) (P := CDivW) (f := fun i j => .int (i / j)) (fun _ _ w => w) (fun _ _ _ _ _ => rfl) h⟩
theorem bin_ok2 {op : Operator} {o : Op} (h : binOk op o = true) : ∃ r, OpR X (binaryOp op) r ∧ ∀ {s H Q x y}, OpPost (kz X) s o false [x, y] H Q → r x y H Q := by
  unfold binOk at h
  simp only [Bool.or_eq_true, Bool.and_eq_true, decide_eq_true_eq] at h
  rcases h with (h | ⟨rfl, rfl⟩) | ⟨rfl, rfl⟩
  · exact bin_ok h
  · exact ⟨_, op_fdivN, fun h => post_i2 (o := .fdivN) (P := fun _ j => j ≠ 0 ∧ j.natAbs < 1073741824) (f := fun i j => .int (i.fdiv j)) (fun _ _ w => w) (fun _ _ _ _ _ => rfl) h⟩
  · exact ⟨_, op_modN, fun h => post_i2 (o := .modN) (P := fun _ j => j ≠ 0) (f := fun i j => .int (i.fmod j)) (fun _ _ w => w) (fun _ _ _ _ _ => rfl) h⟩
theorem cmp_ok0 {op : CmpOp} {o : Op} (ok : CxOk X ER Wx C z) (h : cmpO op = some o) : ∃ r, OpR X (compareOp op) r ∧ ∀ {s H Q x y}, OpPost (kz X) s o false [x, y] H Q → r x y H Q := by
  have hu : X.A.units + 64 < cLine := by have := ok.un; omega
  cases op <;> first | (cases h; done) | skip
  · cases h; exact ⟨_, op_eq.or (op_eqD hu), fun h => post_eq h⟩
  · cases h; exact ⟨_, op_ne.or (op_neD hu), fun h => post_ne h⟩
  · cases h; exact ⟨_, op_lt, fun h => post_i0 (o := .lt) (f := fun i j => .bl (decide (i < j))) (fun _ _ w => w) (fun _ _ _ _ _ => rfl) h⟩
  · cases h; exact ⟨_, op_le, fun h => post_i0 (o := .le) (f := fun i j => .bl (decide (i ≤ j))) (fun _ _ w => w) (fun _ _ _ _ _ => rfl) h⟩
  · cases h; exact ⟨_, op_gt, fun h => post_i0 (o := .gt) (f := fun i j => .bl (decide (j < i))) (fun _ _ w => w) (fun _ _ _ _ _ => rfl) h⟩
  · cases h; exact ⟨_, op_ge, fun h => post_i0 (o := .ge) (f := fun i j => .bl (decide (j ≤ i))) (fun _ _ w => w) (fun _ _ _ _ _ => rfl) h⟩
  · cases h; exact ⟨_, (op_inD ok.un).or ((op_inTD ok.un).or op_in_str), fun h => post_in h⟩
  · cases h; exact ⟨_, (op_notInD ok.un).or ((op_notInTD ok.un).or op_notIn_str), fun h => post_notIn h⟩
theorem cmp_ok {op : CmpOp} {o : Op} (ok : CxOk X ER Wx C z) (h : cmpOk op o = true) : ∃ r, OpR X (compareOp op) r ∧ ∀ {s H Q x y}, OpPost (kz X) s o false [x, y] H Q → r x y H Q := by
  unfold cmpOk at h
  simp only [Bool.or_eq_true, Bool.and_eq_true, decide_eq_true_eq] at h
  rcases h with (((h | ⟨rfl, rfl⟩) | ⟨rfl, rfl⟩) | ⟨rfl, rfl⟩) | ⟨rfl, rfl⟩
  · exact cmp_ok0 ok h
  · exact ⟨_, op_eqL ok.un, fun h => post_eqLW (neg := false) (fun _ _ => rfl) h⟩
  · exact ⟨_, op_neL ok.un, fun h => post_eqLW (neg := true) (fun _ _ => rfl) h⟩
  · exact ⟨_, op_inM ok.un, fun h => post_inM (neg := false) (fun _ _ => rfl) h⟩
  · exact ⟨_, op_ninM ok.un, fun h => post_inM (neg := true) (fun _ _ => rfl) h⟩
theorem not_star_slot {e : Expr} {x : Str} {p : Pos} (h : e = .Name x p) : notStar e = true := by subst h; rfl
theorem plainIx_of {b : Expr} (h : notSlice b = true) : PlainIx b := by
  intro o i
  cases b <;> first | rfl | cases h
/-- a list of operands -/
theorem sa_ok {r : Expr → Ex → Bool} (hr : ∀ e t, r e t = true → SO X ER Wx C e t) : ∀ {es : List Expr} {ts : List Ex}, cA r es ts = true → SA X ER Wx C es ts ∧ es.all notStar = true ∧ ts.length = es.length
  | [], [], _ => ⟨sa_nil, rfl, rfl⟩
  | e :: es, t :: ts, h => by
    have h' : (notStar e = true ∧ r e t = true) ∧ cA r es ts = true := by simpa only [cA, Bool.and_eq_true] using h
    obtain ⟨a, b, c⟩ := sa_ok hr h'.2
    exact ⟨sa_cons (hr _ _ h'.1.2) a h'.1.1, by simp only [List.all_cons, h'.1.1, b, Bool.and_self], congrArg Nat.succ c⟩
theorem sl_ok {r : Expr → Ex → Bool} (hr : ∀ e t, r e t = true → SE X ER Wx C e t false) : ∀ {es : List Expr} {ts : List Ex}, cA r es ts = true → SL X ER Wx C es ts ∧ es.all notStar = true ∧ ts.length = es.length
  | [], [], _ => ⟨sl_nil, rfl, rfl⟩
  | e :: es, t :: ts, h => by
    have h' : (notStar e = true ∧ r e t = true) ∧ cA r es ts = true := by simpa only [cA, Bool.and_eq_true] using h
    obtain ⟨a, b, c⟩ := sl_ok hr h'.2
    exact ⟨sl_cons (hr _ _ h'.1.2) a h'.1.1, by simp only [List.all_cons, h'.1.1, b, Bool.and_self], congrArg Nat.succ c⟩
theorem sk_ok {r : Expr → Ex → Bool} (hr : ∀ e t, r e t = true → SE X ER Wx C e t false) : ∀ {es : List Keyword} {ts : List Ex}, cK r es ts = true → SK X ER Wx C es ts ∧ ts.length = es.length
  | [], [], _ => ⟨sk_nil, rfl⟩
  | ⟨nm, e, p⟩ :: es, t :: ts, h => by
    have h' : r e t = true ∧ cK r es ts = true := by simpa only [cK, Bool.and_eq_true] using h
    obtain ⟨a, c⟩ := sk_ok hr h'.2
    exact ⟨sk_cons (hr _ _ h'.1) a, congrArg Nat.succ c⟩
theorem blt_ok {x : Str} {n : Nat} {o : Op} {e : Expr} {es : List Expr} {ts : List Ex} {p pos : Pos} (ok : CxOk X ER Wx C z) (hg : Gl X x) (ho : oddName x = false) (hb : x ∈ bltNames) (h : bltO x n = some o) (hm : (m = false ∨ o = .toList) ∨ o = .sorted) (hca : z.calm = true ∨ needCalm o = false) (ha : SA X ER Wx C (e :: es) ts) (hs : (e :: es).all notStar = true) :
    SE X ER Wx C (.Call (.Name x p) (e :: es) [] pos) (.op o ts) m := by
  obtain ⟨o1, o2, o3⟩ := odd_inv ho
  have hmg := ok.blt x hb
  have hc : needCalm o = true → X.calm = true := fun q => ok.calm (hca.elim id fun z => by rw [q] at z; cases z)
  unfold bltO at h
  by_cases q : x = "len"
  · rw [if_pos q] at h; cases h; subst q; obtain rfl : m = false := hm.elim (fun z => z.elim id (fun z => by cases z)) (fun z => by cases z)
    exact se_callB call_len (fun h => post_len h) hg hmg (by decide +kernel) ha hs o3 o1
  rw [if_neg q] at h; clear q
  by_cases q : x = "abs"
  · rw [if_pos q] at h; cases h; subst q; obtain rfl : m = false := hm.elim (fun z => z.elim id (fun z => by cases z)) (fun z => by cases z)
    exact se_callB call_abs (fun h => post_abs h) hg hmg (by decide +kernel) ha hs o3 o1
  rw [if_neg q] at h; clear q
  by_cases q : x = "max" ∧ n = 2
  · rw [if_pos q] at h; cases h; obtain ⟨q, _⟩ := q; subst q; obtain rfl : m = false := hm.elim (fun z => z.elim id (fun z => by cases z)) (fun z => by cases z)
    exact se_callB (call_max2 (hc rfl)) (fun h => post_max2 h) hg hmg (by decide +kernel) ha hs o3 o1
  rw [if_neg q] at h; clear q
  by_cases q : x = "min" ∧ n = 2
  · rw [if_pos q] at h; cases h; obtain ⟨q, _⟩ := q; subst q; obtain rfl : m = false := hm.elim (fun z => z.elim id (fun z => by cases z)) (fun z => by cases z)
    exact se_callB (call_min2 (hc rfl)) (fun h => post_min2 h) hg hmg (by decide +kernel) ha hs o3 o1
  rw [if_neg q] at h; clear q
  by_cases q : x = "int"
  · rw [if_pos q] at h; cases h; subst q; obtain rfl : m = false := hm.elim (fun z => z.elim id (fun z => by cases z)) (fun z => by cases z)
    exact se_callTy call_int1 (fun h => post_toInt h) hg hmg (by decide +kernel) ha hs o3 o1
  rw [if_neg q] at h; clear q
  by_cases q : x = "str"
  · rw [if_pos q] at h; cases h; subst q; obtain rfl : m = false := hm.elim (fun z => z.elim id (fun z => by cases z)) (fun z => by cases z)
    exact se_callTy call_str_int (fun h => post_toStr h) hg hmg (by decide +kernel) ha hs o3 o1
  rw [if_neg q] at h; clear q
  by_cases q : x = "repr"
  · rw [if_pos q] at h; cases h; subst q; obtain rfl : m = false := hm.elim (fun z => z.elim id (fun z => by cases z)) (fun z => by cases z)
    obtain ⟨kr, rm⟩ := ok.rm (hca.elim id fun z => by cases z)
    exact se_callB (cr_repr ok.sy rm.gd ok.un) (fun h => post_repr h) hg hmg (by decide +kernel) ha hs o3 o1
  rw [if_neg q] at h; clear q
  by_cases q : x = "list"
  · rw [if_pos q] at h; cases h; subst q
    exact se_callTy (callR_or call_list_of (call_list_strR (hc rfl))) (fun h => post_toList h) hg hmg (by decide +kernel) ha hs o3 o1
  rw [if_neg q] at h; clear q
  by_cases q : x = "tuple"
  · rw [if_pos q] at h; cases h; subst q; obtain rfl : m = false := hm.elim (fun z => z.elim id (fun z => by cases z)) (fun z => by cases z)
    exact se_callTy call_tuple_of (fun h => post_toTuple h) hg hmg (by decide +kernel) ha hs o3 o1
  rw [if_neg q] at h; clear q
  by_cases q : x = "all"
  · rw [if_pos q] at h; cases h; subst q; obtain rfl : m = false := hm.elim (fun z => z.elim id (fun z => by cases z)) (fun z => by cases z)
    exact se_callB (cr_all (hc rfl)) (fun h => post_all h) hg hmg (by decide +kernel) ha hs o3 o1
  rw [if_neg q] at h; clear q
  by_cases q : x = "any"
  · rw [if_pos q] at h; cases h; subst q; obtain rfl : m = false := hm.elim (fun z => z.elim id (fun z => by cases z)) (fun z => by cases z)
    exact se_callB (cr_any (hc rfl)) (fun h => post_any h) hg hmg (by decide +kernel) ha hs o3 o1
  rw [if_neg q] at h; clear q
  by_cases q : x = "sum"
  · rw [if_pos q] at h; cases h; subst q; obtain rfl : m = false := hm.elim (fun z => z.elim id (fun z => by cases z)) (fun z => by cases z)
    exact se_callB (cr_sum (hc rfl)) (fun h => post_sum h) hg hmg (by decide +kernel) ha hs o3 o1
  rw [if_neg q] at h; clear q
  by_cases q : x = "max"
  · rw [if_pos q] at h; cases h; subst q; obtain rfl : m = false := hm.elim (fun z => z.elim id (fun z => by cases z)) (fun z => by cases z)
    exact se_callB (cr_max (hc rfl)) (fun h => post_maxL h) hg hmg (by decide +kernel) ha hs o3 o1
  rw [if_neg q] at h; clear q
  by_cases q : x = "min"
  · rw [if_pos q] at h; cases h; subst q; obtain rfl : m = false := hm.elim (fun z => z.elim id (fun z => by cases z)) (fun z => by cases z)
    exact se_callB (cr_min (hc rfl)) (fun h => post_minL h) hg hmg (by decide +kernel) ha hs o3 o1
  rw [if_neg q] at h; clear q
  by_cases q : x = "sorted"
  · rw [if_pos q] at h; cases h; subst q
    exact se_callB (callR_or cr_sortedI cr_sortedLP) (fun h => post_sorted h) hg hmg (by decide +kernel) ha hs o3 o1
  rw [if_neg q] at h; clear q
  cases h

theorem isNone_inv {e : Expr} (h : isNone e = true) : ∃ j p, e = .Constant .none j p := by
  unfold isNone at h
  split at h
  · exact ⟨_, _, rfl⟩
  · cases h
theorem tyE_ok {e : Expr} {t : Ty} (ok : CxOk X ER Wx C z) (h : tyE z e t = true) : PE X e (tC (tyV' (kz X) t)) ∧ notStar e = true ∧ tyKn (kz X) t = true := by
  unfold tyE at h
  split at h
  · rename_i y p c
    simp only [Bool.and_eq_true, decide_eq_true_eq, List.contains_iff_mem] at h
    obtain ⟨⟨h1, rfl⟩, h3⟩ := h
    obtain ⟨hg, ho⟩ := ok.gl h3
    obtain ⟨d1, d2, d3⟩ := odd_inv ho
    obtain ⟨k1, k2⟩ := ok.kn c h1
    exact ⟨pe_cls (t := .own c) rfl hg d3 d1 k2, rfl, k1⟩
  · rename_i y p hn
    simp only [Bool.and_eq_true, decide_eq_true_eq, List.contains_iff_mem] at h
    obtain ⟨⟨rfl, h2⟩, h3⟩ := h
    obtain ⟨hg, ho⟩ := ok.gl h2
    obtain ⟨d1, d2, d3⟩ := odd_inv ho
    have hm := ok.blt _ h3
    cases t with
    | own c => exact absurd rfl (hn c)
    | int => exact ⟨pe_cls (t := .int) rfl hg d3 d1 hm, rfl, rfl⟩
    | bool => exact ⟨pe_cls (t := .bool) rfl hg d3 d1 hm, rfl, rfl⟩
    | str => exact ⟨pe_cls (t := .str) rfl hg d3 d1 hm, rfl, rfl⟩
    | list => exact ⟨pe_cls (t := .list) rfl hg d3 d1 hm, rfl, rfl⟩
    | tuple => exact ⟨pe_cls (t := .tuple) rfl hg d3 d1 hm, rfl, rfl⟩
    | dict => exact ⟨pe_cls (t := .dict) rfl hg d3 d1 hm, rfl, rfl⟩
  · cases h
theorem tyEs_ok (ok : CxOk X ER Wx C z) : ∀ {es : List Expr} {ts : List Ty}, tyEs z es ts = true → Paired (fun c t => PE X c (tC (tyV' (kz X) t)) ∧ notStar c = true) es ts ∧ ∀ t ∈ ts, tyKn (kz X) t = true
  | [], [], _ => ⟨.nil, fun _ h => by cases h⟩
  | e :: es, t :: ts, h => by
    have h' : tyE z e t = true ∧ tyEs z es ts = true := by simpa only [tyEs, Bool.and_eq_true] using h
    obtain ⟨a, b, c⟩ := tyE_ok ok h'.1
    obtain ⟨d, f⟩ := tyEs_ok ok h'.2
    exact ⟨.cons ⟨a, b⟩ d, fun u hu => by
      rcases List.mem_cons.mp hu with q | q
      · rw [q]; exact c
      · exact f u q⟩
theorem strC_inv {e : Expr} {x : Str} (h : isStrC e = some x) : ∃ j p, e = .Constant (.str x) j p := by
  unfold isStrC at h
  split at h
  · cases h; exact ⟨_, _, rfl⟩
  · cases h
theorem conS_inv {t : Ex} {x : Str} (h : conS t = some x) : t = .con (.str x) := by
  unfold conS at h
  split at h
  · cases h; rfl
  · cases h
theorem mtC_ok {name z1 : Str} {j : Nat} {o : Op} {e : Expr} {te : Ex} {p apos pos : Pos} (h : mtCO name = some o) (he : SO X ER Wx C e te) (hs : notStar e = true) (hl : (apos.endLine == pos.line) = true) : SE X ER Wx C (.Call (.Attribute (.Constant (.str z1) j p) name apos) [e] [] pos) (.op o [.con (.str z1), te]) false := by
  unfold mtCO at h
  split at h
  · rename_i q; cases h; subst q
    exact se_mtC PySem.F.slot_str_join PySem.F.type_str_join mt_join (fun h => post_join h) he hs hl
  split at h
  · rename_i q; cases h; subst q
    exact se_mtC PySem.F.slot_str_find PySem.F.type_str_find mt_find (fun h => post_find h) he hs hl
  split at h
  · rename_i q; cases h; subst q
    exact se_mtC PySem.F.slot_str_startswith PySem.F.type_str_startswith mt_startswith (fun h => post_starts h) he hs hl
  · cases h
theorem mtA_ok {name z1 : Str} {j : Nat} {o : Op} {e : Expr} {te : Ex} {p apos pos : Pos} (h : mtAO name = some o) (hm : m = false ∨ o = .split) (he : SO X ER Wx C e te) (hb : baseOk e = true) (hl : (apos.endLine == pos.line) = true) : SE X ER Wx C (.Call (.Attribute e name apos) [.Constant (.str z1) j p] [] pos) (.op o [te, .con (.str z1)]) m := by
  unfold mtAO at h
  split at h
  · rename_i q; cases h; subst q
    exact se_mtA PySem.F.slot_str_split PySem.F.type_str_split mt_split (fun h => post_split h) (fun ⟨a, _, e, _⟩ => ⟨a, e⟩) he hb hl
  split at h
  · rename_i q; cases h; subst q; obtain rfl : m = false := hm.elim id (fun z => by cases z)
    exact se_mtA PySem.F.slot_str_removeprefix PySem.F.type_str_removeprefix mt_removeprefix (fun h => post_rmpre h) (fun ⟨a, _, e, _⟩ => ⟨a, e⟩) he hb hl
  split at h
  · rename_i q; cases h; subst q; obtain rfl : m = false := hm.elim id (fun z => by cases z)
    exact se_mtA PySem.F.slot_str_startswith PySem.F.type_str_startswith mt_startswith (fun h => post_starts h) (fun ⟨a, _, e, _⟩ => ⟨a, e⟩) he hb hl
  split at h
  · rename_i q; cases h; subst q; obtain rfl : m = false := hm.elim id (fun z => by cases z)
    exact se_mtA PySem.F.slot_str_find PySem.F.type_str_find mt_find (fun h => post_find h) (fun ⟨a, _, e, _⟩ => ⟨a, e⟩) he hb hl
  · cases h
/-- operations -/
theorem op_ok {r : Expr → Ex → Bool} {e : Expr} {o : Op} {ts : List Ex} (ok : CxOk X ER Wx C z) (hr : ∀ e t, r e t = true → SO X ER Wx C e t) (h : opOk r z m e o ts = true) : SE X ER Wx C e (.op o ts) m := by
  unfold opOk at h
  split at h
  · rename_i a op b p
    simp only [Bool.and_eq_true, Bool.not_eq_true', decide_eq_true_eq] at h
    obtain ⟨⟨rfl, hb⟩, h⟩ := h
    split at h
    · simp only [Bool.and_eq_true] at h
      obtain ⟨rr, h1, h2⟩ := bin_ok2 (X := X) hb
      exact se_bin h1 h2 (hr _ _ h.1) (hr _ _ h.2)
    · cases h
  · rename_i a p
    simp only [Bool.and_eq_true, Bool.not_eq_true', decide_eq_true_eq] at h
    obtain ⟨⟨rfl, rfl⟩, h⟩ := h
    split at h
    · exact se_un un_neg (fun h => post_neg h) (hr _ _ h)
    · cases h
  · rename_i a op b p
    simp only [Bool.and_eq_true, Bool.not_eq_true'] at h
    obtain ⟨rfl, h⟩ := h
    split at h
    · simp only [Bool.and_eq_true, Bool.not_eq_true'] at h
      obtain ⟨⟨⟨hb, ha⟩, hb2⟩, hm⟩ := h
      obtain ⟨rr, h1, h2⟩ := cmp_ok ok hb
      exact se_cmp h1 h2 (hr _ _ ha) (hr _ _ hb2) hm
    · simp only [Bool.and_eq_true] at h
      obtain ⟨ha, h⟩ := h
      split at h
      · simp only [Bool.and_eq_true, Bool.or_eq_true, decide_eq_true_eq] at h
        rcases h with ⟨rfl, rfl⟩ | ⟨rfl, rfl⟩
        · exact se_isN (hr _ _ ha)
        · exact se_isNotN (hr _ _ ha)
      · simp only [Bool.and_eq_true, Bool.or_eq_true, decide_eq_true_eq] at h
        rcases h with ⟨rfl, rfl⟩ | ⟨rfl, rfl⟩
        · exact se_isB (hr _ _ ha)
        · exact se_isNB (hr _ _ ha)
      · cases h
    · cases h
  · rename_i a lo hi p p2
    simp only [Bool.and_eq_true, Bool.not_eq_true', decide_eq_true_eq] at h
    obtain ⟨⟨rfl, rfl⟩, h⟩ := h
    split at h
    · exact se_sl0 (hr _ _ h)
    · simp only [Bool.and_eq_true] at h
      exact se_sl1 (hr _ _ h.1) (hr _ _ h.2)
    · simp only [Bool.and_eq_true] at h
      exact se_sl2 (hr _ _ h.1) (hr _ _ h.2)
    · cases h
  · rename_i a k _ _ _ p
    simp only [Bool.and_eq_true, Bool.not_eq_true', decide_eq_true_eq] at h
    obtain ⟨⟨⟨rfl, rfl⟩, rfl⟩, h⟩ := h
    split at h
    · exact se_rev (hr _ _ h)
    · cases h
  · rename_i a b p _
    simp only [Bool.and_eq_true, Bool.not_eq_true', decide_eq_true_eq] at h
    obtain ⟨⟨⟨rfl, rfl⟩, hs⟩, h⟩ := h
    split at h
    · simp only [Bool.and_eq_true] at h
      exact peImp (pe_ix ix_seq (hr _ _ h.1) (hr _ _ h.2) (plainIx_of hs)) fun s H Q h => rdO_mono (rdE_op2 h) fun x H1 h1 => rdO_mono h1 fun y H2 h2 => post_item h2
    · cases h
  · rename_i a f p
    simp only [Bool.and_eq_true, Bool.not_eq_true', decide_eq_true_eq] at h
    obtain ⟨⟨⟨rfl, rfl⟩, hb⟩, h⟩ := h
    split at h
    · exact se_fld ok.kit (hr _ _ h) (base_of hb _ _ _)
    · cases h
  · rename_i a name apos x pos
    simp only [Bool.and_eq_true] at h
    obtain ⟨hl, h⟩ := h
    split at h
    · split at h
      · rename_i z1 z2 e1 e2
        simp only [Bool.and_eq_true, Bool.or_eq_true, decide_eq_true_eq, Bool.not_eq_true'] at h
        obtain ⟨⟨⟨⟨rfl, hs⟩, hx⟩, rfl⟩, h⟩ := h
        obtain ⟨j, p, rfl⟩ := strC_inv e1
        obtain rfl := conS_inv e2
        rcases h with h | ⟨⟨rfl, rfl⟩, hc⟩
        · exact mtC_ok h (hr _ _ hx) hs hl
        · exact se_index (ok.calm hc) ok.tk (hr _ _ hx) hs hl
      · split at h
        · rename_i z1 z2 e1 e2
          simp only [Bool.and_eq_true, Bool.or_eq_true, decide_eq_true_eq, Bool.not_eq_true'] at h
          obtain ⟨⟨⟨⟨rfl, hb⟩, ha⟩, ho⟩, hm⟩ := h
          obtain ⟨j, p, rfl⟩ := strC_inv e1
          obtain rfl := conS_inv e2
          exact mtA_ok ho hm (hr _ _ ha) hb hl
        · cases h
    · cases h
  · rename_i x p a as p2
    simp only [Bool.and_eq_true, Bool.or_eq_true, Bool.not_eq_true', decide_eq_true_eq] at h
    obtain ⟨⟨hg, hb⟩, h⟩ := h
    obtain ⟨hg, ho⟩ := ok.gl hg
    have hb : x ∈ bltNames := by simpa using hb
    rcases h with (((⟨⟨⟨hbl, hm⟩, hca⟩, ha⟩ | ⟨⟨⟨rfl, rfl⟩, hst⟩, h⟩) | ⟨⟨rfl, hc⟩, h⟩) | ⟨⟨rfl, hc⟩, h⟩) | ⟨⟨⟨rfl, rfl⟩, hc⟩, h⟩
    · obtain ⟨sa, hs, _⟩ := sa_ok hr ha
      exact blt_ok ok hg ho hb hbl hm hca sa hs
    · split at h
      · simp only [Bool.and_eq_true] at h
        obtain ⟨pc, ns, kn⟩ := tyE_ok ok h.2
        exact se_isi1 ok.kit kn hg (ok.blt _ hb) pc ns (hr _ _ h.1) hst
      · simp only [Bool.and_eq_true, decide_eq_true_eq] at h
        obtain ⟨⟨ha, hts⟩, hlen⟩ := h
        obtain ⟨pc, kn⟩ := tyEs_ok ok hts
        exact se_isiT ok.kit kn hg (ok.blt _ hb) pc hlen (hr _ _ ha) hst
      · cases h
    · split at h
      · simp only [Bool.and_eq_true, decide_eq_true_eq] at h
        obtain ⟨⟨⟨rfl, hg2⟩, hs⟩, hb2⟩ := h
        exact se_rng1 (ok.calm hc) hg (ok.blt _ hb) (ok.gl hg2).1 (ok.blt _ (by decide)) (hr _ _ hb2) hs
      · simp only [Bool.and_eq_true, decide_eq_true_eq] at h
        obtain ⟨⟨⟨⟨⟨rfl, hg2⟩, hs⟩, hs2⟩, hb2⟩, hc2⟩ := h
        exact se_rng2 (ok.calm hc) hg (ok.blt _ hb) (ok.gl hg2).1 (ok.blt _ (by decide)) (hr _ _ hb2) hs (hr _ _ hc2) hs2
      · cases h
    · split at h
      · simp only [Bool.and_eq_true, decide_eq_true_eq] at h
        obtain ⟨⟨⟨rfl, hg2⟩, hs⟩, hb2⟩ := h
        exact se_diffL (ok.calm hc) (by have := ok.un; omega) (ok.gl hg2).1 (ok.blt _ (by decide)) hg (ok.blt _ hb) hs (hr _ _ hb2)
      · cases h
    · split at h
      · simp only [Bool.and_eq_true, decide_eq_true_eq] at h
        obtain ⟨⟨⟨⟨⟨rfl, hg2⟩, rfl⟩, hg3⟩, hs⟩, hb2⟩ := h
        exact se_diffT (ok.calm hc) (by have := ok.un; omega) (ok.gl hg3).1 (ok.blt _ (by decide)) (ok.gl hg2).1 (ok.blt _ (by decide)) hg (ok.blt _ hb) hs (hr _ _ hb2)
      · cases h
  · cases h
end
end Mp
namespace Mp
open PySem PySem.Spec L2

section
variable {X : Cx} {ER : ExT} {Wx : WX} {C : Calls} {z : Cz} {m : Bool}
theorem CxOk.loc (ok : CxOk X ER Wx C z) {x : Str} (h : locB z x = true) : L2.Loc X.env.scope x ∧ (X.fn x = true ∨ X.env.scope.names.lookup x = some .local) := by
  unfold locB at h
  unfold L2.Loc
  rw [ok.sc]
  split at h
  · rename_i e; exact ⟨.inl e, .inr e⟩
  · rename_i e
    refine ⟨.inr e, .inl ?_⟩
    have f := ok.fn
    split at h
    · rename_i q; rw [q] at f; exact f x
    · rename_i l q; rw [q] at f; exact f x (by simpa using h)
  · cases h
theorem each_of {e : Expr} (h : notStar e = true) (es : List Expr) (env : Env) : assignEach (e :: es) env = (false, assign e env) :: assignEach es env := by
  cases e <;> first | rfl | cases h
mutual
theorem cG_ok (ok : CxOk X ER Wx C z) : ∀ {e : Expr} {t : Tg}, cG z e t = true → SG X e t
  | .Name x p, .nm i, h => by
    have h' : z.N[i]? = some x ∧ locB z x = true := by simpa [cG] using h
    obtain ⟨l, f⟩ := ok.loc h'.2
    exact sg_nm ok.nd (by rw [ok.hN]; exact h'.1) l f
  | .Tuple es k p, .tp ts, h => by
    have h' : z.calm = true ∧ cGs z es ts = true := by simpa only [cG, Bool.and_eq_true] using h
    obtain ⟨a, b, c⟩ := cGs_ok ok h'.2
    exact sg_tp (ok.calm h'.1) a b c
theorem cGs_ok (ok : CxOk X ER Wx C z) : ∀ {es : List Expr} {ts : List Tg}, cGs z es ts = true → SGs X es ts ∧ (assignEach es X.env).length = ts.length ∧ (assignEach es X.env).findIdx? (·.1) = none
  | [], [], _ => ⟨sgs_nil, rfl, rfl⟩
  | e :: es, t :: ts, h => by
    have h' : (notStar e = true ∧ cG z e t = true) ∧ cGs z es ts = true := by simpa only [cGs, Bool.and_eq_true] using h
    obtain ⟨a, b, c⟩ := cGs_ok ok h'.2
    have q := each_of h'.1.1 es X.env
    refine ⟨sgs_cons (cG_ok ok h'.1.2) a (by rw [q]; rfl), by rw [q, List.length_cons, b, List.length_cons], ?_⟩
    rw [q, List.findIdx?_cons, c]
    rfl
end
theorem folded_of {e : Expr} (h : notSet e = true) (env : Env) (x : Value) : foldedSetIterable e env x = pure x := by
  cases e <;> first | rfl | cases h
theorem cI_ok {r : Expr → Ex → Bool} {tg iter : Expr} {k : ItK} {src : List Ex} (ok : CxOk X ER Wx C z) (hr : ∀ e t, r e t = true → SE X ER Wx C e t false) (h : cI r z iter k src = true) : SI X ER Wx C tg iter k src := by
  unfold cI at h
  split at h
  · exact si_seq (hr _ _ h)
  · split at h
    · rename_i x p a p2
      simp only [Bool.and_eq_true, decide_eq_true_eq] at h
      obtain ⟨⟨⟨rfl, hg⟩, hs⟩, ha⟩ := h
      exact si_range1 (ok.gl hg).1 (ok.blt _ (by decide)) (hr _ _ ha) hs
    · cases h
  · split at h
    · rename_i x p a b p2
      simp only [Bool.and_eq_true, decide_eq_true_eq] at h
      obtain ⟨⟨⟨⟨⟨rfl, hg⟩, hs⟩, hs2⟩, ha⟩, hb⟩ := h
      exact si_zip2 (ok.gl hg).1 (ok.blt _ (by decide)) (hr _ _ ha) (hr _ _ hb) hs hs2
    · cases h
  · split at h
    · rename_i x p a b p2
      simp only [Bool.and_eq_true, decide_eq_true_eq] at h
      obtain ⟨⟨⟨⟨⟨rfl, hg⟩, hs⟩, hs2⟩, ha⟩, hb⟩ := h
      exact si_range2 (ok.gl hg).1 (ok.blt _ (by decide)) (hr _ _ ha) (hr _ _ hb) hs hs2
    · cases h
  · cases h
theorem own_get {N : List Str} {own : List Nat} {p : Str × Nat} (h : p ∈ ownOf N own) : N[p.2]? = some p.1 := by
  unfold ownOf at h
  obtain ⟨i, _, e⟩ := List.mem_filterMap.mp h
  cases q : N[i]? with
  | none => rw [q] at e; cases e
  | some x => rw [q] at e; cases e; exact q
theorem blk_inv {scope : Scope} {own : List Nat} (ok : CxOk X ER Wx C z) (h : blkOk z scope own = true) : BlkOk X.N X.env.scope scope (ownOf z.N own) ∧ (ownOf z.N own).map (·.2) = own ∧ scope.names.all (fun y => decide (scope.names.lookup y.1 = some y.2)) = true := by
  unfold blkOk at h
  simp only [Bool.and_eq_true, decide_eq_true_eq] at h
  obtain ⟨⟨⟨⟨h1, h2⟩, h3⟩, h4⟩, h5⟩ := h
  refine ⟨⟨h1, fun y hy => ?_, fun p hp => by rw [ok.hN]; exact own_get hp, fun y hy e => ?_, fun y hy e => ?_⟩, h3, h2⟩
  · simpa using List.all_eq_true.mp h2 y hy
  · have := List.all_eq_true.mp h4 y hy
    rw [ok.sc]
    simpa [e] using this
  · have := List.all_eq_true.mp h5 y hy
    rw [ok.hN]
    simp only [Bool.or_eq_true, Bool.not_eq_true', Bool.or_eq_false_iff, decide_eq_false_iff_not, List.contains_iff_mem] at this
    rcases this with (⟨n1, n2⟩ | z1) | z2
    · exact e.elim (fun z => absurd z n1) (fun z => absurd z n2)
    · exact .inl z1
    · refine .inr fun w => ?_
      have : z.N.contains y.1 = true := by simpa using w
      rw [this] at z2
      cases z2
theorem CxOk.blk (ok : CxOk X ER Wx C z) {scope : Scope} (hk : scope.kind = .function) (hu : scope.names.all (fun y => decide (scope.names.lookup y.1 = some y.2)) = true) (s : Shared) (H : Hp) (c : Addr) (cl : List (Str × Addr)) (fp : List Addr) :
    CxOk (X.blk s H scope (compEnvC scope cl c X.env) fp) ER W0 C (z.blk scope.names) where
  nd := ok.nd
  hN := ok.hN
  calm := ok.calm
  kd := hk
  sc := by
    show (relabel scope X.env).names = relN scope.names z.sc
    unfold relabel relN
    simp only [ok.kd, Env.kindOf, ok.sc, beq_self_eq_true, Bool.and_true]
  fn := by
    show ∀ x ∈ scope.names.filterMap (fun p => if p.2 = .cell then some p.1 else none), (scope.names.lookup x == some .cell) = true
    intro x hx
    obtain ⟨p, hp, e⟩ := List.mem_filterMap.mp hx
    split at e
    · rename_i q
      cases e
      have := List.all_eq_true.mp hu p hp
      have e2 : scope.names.lookup p.1 = some p.2 := by simpa using this
      rw [e2, q]
      rfl
    · cases e
  un := ok.un
  blt := ok.blt
  glo := ok.glo
  rm := ok.rm
  fns := ok.fns
  tk := takes0
  er := ok.er
  kit := ok.kit
  sy := ok.sy
  ekit := ok.ekit
  htop := ok.htop
  kn := ok.kn
  xn := ok.xn
  mkc := ok.mkc
  mt := ok.mt
theorem sw_ok {r : Expr → Ex → Bool} {op : BoolOp} {pos : Pos} (hr : ∀ e t, r e t = true → ST X ER Wx C e t) : ∀ {es : List Expr} {t : Ex}, cW r op es t = true → SW X ER Wx C (.BoolOp op es pos) t
  | [a], t, h => by
    have h' : r a t = true := by simpa only [cW] using h
    cases op with
    | And => exact sw_and1 (hr _ _ h')
    | Or => exact sw_or1 (hr _ _ h')
  | a :: b :: l, t, h => by
    unfold cW at h
    split at h
    · simp only [Bool.and_eq_true] at h
      exact sw_and (hr _ _ h.1) (sw_ok hr h.2)
    · simp only [Bool.and_eq_true] at h
      exact sw_or (hr _ _ h.1) (sw_ok hr h.2)
    · cases h
  | [], _, h => by simp [cW] at h
end

/-- what the check promises, at fuel n -/
structure Okn (n : Nat) : Prop where
  e : ∀ {X : Cx} {ER : ExT} {Wx : WX} {C : Calls} {z : Cz}, CxOk X ER Wx C z → ∀ m e t, cE n z m e t = true → SE X ER Wx C e t m
  o : ∀ {X : Cx} {ER : ExT} {Wx : WX} {C : Calls} {z : Cz}, CxOk X ER Wx C z → ∀ e t, cO n z e t = true → SO X ER Wx C e t
  t : ∀ {X : Cx} {ER : ExT} {Wx : WX} {C : Calls} {z : Cz}, CxOk X ER Wx C z → ∀ e t, cT n z e t = true → ST X ER Wx C e t
section
variable {X : Cx} {ER : ExT} {Wx : WX} {C : Calls} {z : Cz} {m : Bool} {n : Nat}
theorem call_ok {f : Nat} {ts : List Ex} {ar : List (Sum Nat D)} {r : Expr → Ex → Bool} {x : Str} {p pos : Pos} {es : List Expr} {kws : List Keyword} (ok : CxOk X ER Wx C z) (hr : ∀ e t, r e t = true → SE X ER Wx C e t false)
    (hca : z.calm = true) (hg : glB z x = true) (hf : fnOkB z m x f es.length (kws.filterMap (·.arg)) ar = true) (har : arOk ts.length ar = true) (hka : kws.all (·.arg.isSome) = true)
    (ha : cA r es (ts.take es.length) = true) (hk : cK r kws (ts.drop es.length) = true) : SE X ER Wx C (.Call (.Name x p) es kws pos) (.call f ts ar) m := by
  obtain ⟨gl, od⟩ := ok.gl hg
  unfold fnOkB at hf
  split at hf
  case h_2 => cases hf
  rename_i g0 fr shs hlk
  simp only [Bool.and_eq_true, Bool.or_eq_true, Bool.not_eq_true', decide_eq_true_eq] at hf
  obtain ⟨⟨rfl, hfr⟩, hq⟩ := hf
  obtain ⟨k, fx, fd, ps, F, rm, mg, kp, sh⟩ := ok.fns hca x _ _ _ hlk
  obtain ⟨q, hq1, hq2⟩ := List.any_eq_true.mp hq
  simp only [Bool.and_eq_true, decide_eq_true_eq] at hq2
  obtain ⟨⟨e2, e3⟩, e4⟩ := hq2
  obtain ⟨sh1, sh2⟩ := sh q hq1
  have e4 := arEq_eq e4
  rw [e2, e3, e4] at sh1
  rw [e4] at sh2
  obtain ⟨sl, st, l1⟩ := sl_ok hr ha
  obtain ⟨sk, l2⟩ := sk_ok hr hk
  have et : ts.take es.length ++ ts.drop es.length = ts := List.take_append_drop _ _
  have kl : kws.length = (kws.filterMap (·.arg)).length := by
    clear sk l2 hk ha sl l1 sh1 hq e3
    induction kws with
    | nil => rfl
    | cons k r ih =>
      obtain ⟨a, v, p⟩ := k
      have h' : a.isSome = true ∧ r.all (·.arg.isSome) = true := by simpa only [List.all_cons, Bool.and_eq_true] using hka
      cases a with
      | none => cases h'.1
      | some y => simp only [List.filterMap_cons, List.length_cons]; rw [← ih h'.2]
  have := se_call (n := 0) (f := g0) (p := p) (pos := pos) (ok.calm hca) F rm gl mg kp (odd_inv od).1 sh1 rfl kl ok.tk (ok.er ▸ ERx_ok) (by rw [et]; exact har) sh2 l1 l2 sl sk st hka
  rw [et] at this
  cases fr with
  | true => cases m with
    | true => exact this
    | false => exact this.share
  | false =>
    obtain rfl : m = false := hfr.elim (fun z => by cases z) id
    exact this
theorem kw_len : ∀ {kws : List Keyword}, kws.all (·.arg.isSome) = true → kws.length = (kws.filterMap (·.arg)).length
  | [], _ => rfl
  | ⟨a, v, p⟩ :: r, h => by
    have h' : a.isSome = true ∧ r.all (·.arg.isSome) = true := by simpa only [List.all_cons, Bool.and_eq_true] using h
    cases a with
    | none => cases h'.1
    | some y => simp only [List.filterMap_cons, List.length_cons]; rw [← kw_len h'.2]
theorem sh_inv {sh : List ShT} {n : Nat} {ks : List Str} {ar : List (Sum Nat D)} {K : PySem.W.Frag} {fd : FuncData} {ps : List Str} (h : shB sh n ks ar = true) (hs : ∀ q ∈ sh, Shp K fd ps q.1 q.2.1 q.2.2 ∧ q.2.2.length = ps.length) : Shp K fd ps n ks ar ∧ ar.length = ps.length := by
  obtain ⟨q, hq1, hq2⟩ := List.any_eq_true.mp h
  simp only [Bool.and_eq_true, decide_eq_true_eq] at hq2
  obtain ⟨⟨e2, e3⟩, e4⟩ := hq2
  obtain ⟨s1, s2⟩ := hs q hq1
  have e4 := arEq_eq e4
  rw [e2, e3, e4] at s1
  rw [e4] at s2
  exact ⟨s1, s2⟩
theorem mt_inv (ok : CxOk X ER Wx C z) (hca : z.calm = true) {c f n : Nat} {x : Str} {k : MK} {ks : List Str} {ar : List (Sum Nat D)} (h : mtB z c x k f n ks ar = true) : ∃ (j : Nat) (fx : Addr) (fd : FuncData) (ps : List Str), isKnown X.K c = true ∧ MtAt X.K c x fx fd ps k ∧
    FnG X.prog X.w X.K X.mg X.base (L2.CX X.prog X.w) j fx fd ps (spF ⟨X.K, none⟩ ER C false f ps.length) ∧ RoomG (j + 2) X.A ∧ Shp X.K fd ps n ks ar ∧ ar.length = ps.length := by
  obtain ⟨q, hq1, hq2⟩ := List.any_eq_true.mp h
  simp only [Bool.and_eq_true, decide_eq_true_eq] at hq2
  obtain ⟨⟨⟨⟨rfl, rfl⟩, rfl⟩, rfl⟩, hsh⟩ := hq2
  obtain ⟨j, fx, fd, ps, h1, h2, h3, h4, h5⟩ := ok.mt hca q hq1
  exact ⟨j, fx, fd, ps, h1, h2, h3, h4, sh_inv hsh h5⟩
theorem make_ok {c f : Nat} {fz : Bool} {ts : List Ex} {ar : List (Sum Nat D)} {r : Expr → Ex → Bool} {x : Str} {p pos : Pos} {es : List Expr} {kws : List Keyword} (ok : CxOk X ER Wx C z) (hr : ∀ e t, r e t = true → SE X ER Wx C e t false)
    (hca : z.calm = true) (hg : glB z x = true) (hx : x = clsN c) (hf : mkB z c f (es.length + 1) (kws.filterMap (·.arg)) ar = true) (har : arOk (ts.length + 1) ar = true) (hka : kws.all (·.arg.isSome) = true)
    (ha : cA r es (ts.take es.length) = true) (hk : cK r kws (ts.drop es.length) = true) : SE X ER Wx C (.Call (.Name x p) es kws pos) (.make c fz f ts ar) false := by
  obtain ⟨gl, od⟩ := ok.gl hg
  obtain ⟨q, hq1, hq2⟩ := List.any_eq_true.mp hf
  simp only [Bool.and_eq_true, decide_eq_true_eq] at hq2
  obtain ⟨⟨rfl, rfl⟩, hsh⟩ := hq2
  obtain ⟨k, fx, fd, ps, kn, mg, M, F, rm, sh⟩ := ok.mkc hca q hq1
  obtain ⟨s1, s2⟩ := sh_inv hsh sh
  obtain ⟨sl, st, l1⟩ := sl_ok hr ha
  obtain ⟨sk, l2⟩ := sk_ok hr hk
  have et : ts.take es.length ++ ts.drop es.length = ts := List.take_append_drop _ _
  have := se_make (fz := fz) (f := q.2.1) (x := x) (p := p) (pos := pos) (ok.calm hca) kn M F (rm.mono (by omega)) gl (by rw [hx]; exact mg) (odd_inv od).1 s1 rfl (kw_len hka) ok.tk (ok.er ▸ ERx_ok) (ok.er ▸ ERx_dn) (by rw [et]; exact har) s2 l1 l2 sl sk st hka
  rw [et] at this
  exact this
theorem dot_ok {c f : Nat} {ts : List Ex} {r0 : Ex} {ar : List (Sum Nat D)} {r : Expr → Ex → Bool} {x : Str} {o : Expr} {apos pos : Pos} {es : List Expr} {kws : List Keyword} (ok : CxOk X ER Wx C z) (hr : ∀ e t, r e t = true → SE X ER Wx C e t false)
    (hca : z.calm = true) (hf : mtB z c x .dot f (es.length + 1) (kws.filterMap (·.arg)) ar = true) (har : arOk (ts.length + 1) ar = true) (hka : kws.all (·.arg.isSome) = true) (hb : baseOk o = true) (hl : (apos.endLine == pos.line) = true) (hfew : es.length + kws.length < 29)
    (ho : r o r0 = true) (ha : cA r es (ts.take es.length) = true) (hk : cK r kws (ts.drop es.length) = true) : SE X ER Wx C (.Call (.Attribute o x apos) es kws pos) (.meth .dot c f (r0 :: ts) ar) false := by
  obtain ⟨k, fx, fd, ps, kn, ⟨M, hmf⟩, F, rm, s1, s2⟩ := mt_inv ok hca hf
  obtain ⟨sl, st, l1⟩ := sl_ok hr ha
  obtain ⟨sk, l2⟩ := sk_ok hr hk
  have et : ts.take es.length ++ ts.drop es.length = ts := List.take_append_drop _ _
  have := se_dot (f := f) (ok.calm hca) ok.kit kn M hmf F (rm.mono (by omega)) s1 rfl (kw_len hka) ok.tk (ok.er ▸ ERx_ok) (by rw [et]; exact har) s2 l1 l2 (hr _ _ ho) sl sk st hka hb hl hfew
  rw [et] at this
  exact this
theorem cm_ok {c f : Nat} {k : MK} {ts : List Ex} {ar : List (Sum Nat D)} {r : Expr → Ex → Bool} {a b : Expr} {op : CmpOp} {pos : Pos} (ok : CxOk X ER Wx C z) (hr : ∀ e t, r e t = true → SE X ER Wx C e t false) (h : cmB r z a op b k c f ts ar = true) :
    SE X ER Wx C (.Compare a [op] [b] pos) (.meth k c f ts ar) false ∧ ST X ER Wx C (.Compare a [op] [b] pos) (.tb (.meth k c f ts ar)) := by
  unfold cmB at h
  simp only [Bool.and_eq_true, Bool.not_eq_true'] at h
  obtain ⟨⟨⟨hca, hm⟩, hst⟩, h⟩ := h
  split at h
  case h_2 => cases h
  simp only [Bool.and_eq_true] at h
  obtain ⟨⟨ha, hb⟩, h⟩ := h
  split at h
  · simp only [Bool.and_eq_true, decide_eq_true_eq] at h
    obtain ⟨⟨rfl, e1⟩, hf⟩ := h
    obtain rfl := (arEq_eq e1).symm
    obtain ⟨j, fx, fd, ps, kn, D0, F, rm, s1, s2⟩ := mt_inv ok hca hf
    exact se_inO false (ok.calm hca) D0 F (rm.mono (by omega)) s1 s2.symm ok.tk (ok.er ▸ ERx_ok) (hr _ _ ha) (hr _ _ hb) hst hm
  · simp only [Bool.and_eq_true, decide_eq_true_eq] at h
    obtain ⟨⟨rfl, e1⟩, hf⟩ := h
    obtain rfl := (arEq_eq e1).symm
    obtain ⟨j, fx, fd, ps, kn, D0, F, rm, s1, s2⟩ := mt_inv ok hca hf
    exact se_inO true (ok.calm hca) D0 F (rm.mono (by omega)) s1 s2.symm ok.tk (ok.er ▸ ERx_ok) (hr _ _ ha) (hr _ _ hb) hst hm
  · simp only [Bool.and_eq_true, decide_eq_true_eq] at h
    obtain ⟨⟨rfl, e1⟩, hf⟩ := h
    obtain rfl := (arEq_eq e1).symm
    obtain ⟨j, fx, fd, ps, kn, D0, F, rm, s1, s2⟩ := mt_inv ok hca hf
    have e2 : ps.length = 2 := s2.symm
    rw [e2] at F
    exact se_eqO (ok.calm hca) ok.kit kn D0 F (rm.mono (by omega)) s1 ok.tk (ok.er ▸ ERx_ok) (hr _ _ ha) (hr _ _ hb) hm
  · cases h
theorem sub_inv {own : List Nat} {e : Expr} {k : ItK} {src ifs : List Ex} {tg : Tg} {elt : Ex} (ih : Okn n) (ok : CxOk X ER Wx C z) (h : subEx (fun z e t => cE n z false e t) (cT n) z own e k src tg ifs elt = true) :
    ∃ x tge iter fs scope pos, e = .ListComp x [⟨tge, iter, fs, 0⟩] scope pos ∧ SI X ER Wx C tge iter k src ∧ BlkOk X.N X.env.scope scope (ownOf z.N own) ∧ (ownOf z.N own).map (·.2) = own ∧
      (∀ (s : Shared) (H : Hp) (c : Addr) (cl : List (Str × Addr)) (fp : List Addr), SG (X.blk s H scope (compEnvC scope cl c X.env) fp) tge tg) ∧
      (∀ (s : Shared) (H : Hp) (c : Addr) (cl : List (Str × Addr)) (fp : List Addr), STs (X.blk s H scope (compEnvC scope cl c X.env) fp) ER W0 C fs ifs) ∧
      (∀ (s : Shared) (H : Hp) (c : Addr) (cl : List (Str × Addr)) (fp : List Addr), SE (X.blk s H scope (compEnvC scope cl c X.env) fp) ER W0 C x elt false) ∧ (∀ x, foldedSetIterable iter X.env x = pure x) ∧ ∀ i ∈ tgI tg, i ∈ (ownOf z.N own).map (·.2) := by
  unfold subEx at h
  split at h
  · rename_i x tge iter fs scope pos
    simp only [Bool.and_eq_true] at h
    obtain ⟨⟨⟨⟨⟨⟨⟨_, h1⟩, h2⟩, h3⟩, h4⟩, h5⟩, h6⟩, h7⟩ := h
    obtain ⟨b1, b2, b3⟩ := blk_inv ok h1
    have bk := fun s H c cl fp => ok.blk b1.kind b3 s H c cl fp
    refine ⟨x, tge, iter, fs, scope, pos, rfl, cI_ok ok (ih.e ok false) h2, b1, b2, fun s H c cl fp => cG_ok (bk s H c cl fp) h4, fun s H c cl fp => ?_, fun s H c cl fp => ih.e (bk s H c cl fp) false _ _ h7, folded_of h3 _, ?_⟩
    · split at h6
      · exact sts_nil
      · exact sts_one (ih.t (bk s H c cl fp) _ _ h6)
      · cases h6
    · rw [b2]
      intro i hi
      simpa using List.all_eq_true.mp h5 i hi
  · cases h
theorem sub_calm {own : List Nat} {e : Expr} {k : ItK} {src ifs : List Ex} {tg : Tg} {elt : Ex} {r rT : Cz → Expr → Ex → Bool} (h : subEx r rT z own e k src tg ifs elt = true) : z.calm = true := by
  unfold subEx at h
  split at h
  · simp only [Bool.and_eq_true] at h
    exact h.1.1.1.1.1.1.1
  · cases h
theorem sub_ok {own : List Nat} {e : Expr} {k : ItK} {src ifs : List Ex} {tg : Tg} {elt : Ex} (ih : Okn n) (ok : CxOk X ER Wx C z) (h : subEx (fun z e t => cE n z false e t) (cT n) z own e k src tg ifs elt = true) : SE X ER Wx C e (.lc k src tg ifs elt own) m := by
  have hca := sub_calm h
  obtain ⟨x, tge, iter, fs, scope, pos, rfl, h1, h2, h3, h4, h5, h6, h7, h8⟩ := sub_inv ih ok h
  have := se_lc (m := m) (pos := pos) (ok.calm hca) ok.nd h1 h2 h4 h5 h6 h7 h8
  rw [h3] at this
  exact this
theorem sd_ok {r : Expr → Ex → Bool} (hr : ∀ e t, r e t = true → SE X ER Wx C e t false) : ∀ {es : List Expr} {fl : List Bool} {ts : List Ex}, cDs r es fl ts = true → SD X ER Wx C es fl ts
  | [], [], [], _ => sd_nil
  | e :: es, b :: fl, t :: ts, h => by
    unfold cDs at h
    rw [Bool.and_eq_true] at h
    obtain ⟨h1, h2⟩ := h
    have z := sd_ok hr h2
    split at h1
    · exact sd_star (hr _ _ h1) z
    · rw [Bool.and_eq_true] at h1
      exact sd_cons (hr _ _ h1.2) z h1.1
    · cases h1
theorem sf_ok {r : Expr → Ex → Bool} (hr : ∀ e t, r e t = true → SE X ER Wx C e t false) : ∀ {es : List Expr} {ts : List Ex}, cFs r es ts = true → SF X ER Wx C es ts
  | [], [], _ => .nil
  | e :: es, t :: ts, h => by
    unfold cFs at h
    rw [Bool.and_eq_true] at h
    obtain ⟨h1, h2⟩ := h
    have z := sf_ok hr h2
    split at h1
    · split at h1
      · obtain rfl := of_decide_eq_true h1
        exact .con z
      · cases h1
    · rw [Bool.and_eq_true, decide_eq_true_eq] at h1
      obtain ⟨rfl, h1⟩ := h1
      exact .fmt (hr _ _ h1) z
    · cases h1
theorem okn : ∀ n, Okn n
  | 0 => ⟨fun _ m e t h => by simp [cE] at h, fun _ e t h => by simp [cO] at h, fun _ e t h => by simp [cT] at h⟩
  | n + 1 => by
    have ih := okn n
    refine ⟨@fun X ER Wx C z ok m e t h => ?_, @fun X ER Wx C z ok e t h => ?_, @fun X ER Wx C z ok e t h => ?_⟩
    · unfold cE at h
      split at h
      · simp only [Bool.and_eq_true, Bool.or_eq_true, Bool.not_eq_true'] at h
        exact con_ok ok h.1 h.2
      · simp only [Bool.and_eq_true, Bool.not_eq_true'] at h
        obtain ⟨rfl, h⟩ := h
        obtain ⟨x, p, rfl, h1, h2, h3, h4⟩ := slot_inv ok h
        exact se_var h1 h2 h3 h4
      · simp only [Bool.and_eq_true] at h
        obtain ⟨rfl, h⟩ := h
        obtain ⟨x, p, rfl, h1, h2, h3, h4⟩ := slot_inv ok h
        exact se_mov h1 h2 h3 h4
      · exact op_ok ok (ih.o ok) h
      · simp only [Bool.and_eq_true, Bool.not_eq_true'] at h
        obtain ⟨rfl, h⟩ := h
        split at h
        · exact se_tup (sl_ok (ih.e ok false) h).1
        · cases h
      · split at h
        · exact se_lst (sl_ok (ih.e ok false) h).1
        · cases h
      · simp only [Bool.and_eq_true, Bool.not_eq_true'] at h
        obtain ⟨rfl, h⟩ := h
        split at h
        · exact se_dispT (sd_ok (ih.e ok false) h)
        · cases h
      · split at h
        · exact se_dispL (sd_ok (ih.e ok false) h)
        · cases h
      · simp only [Bool.and_eq_true, Bool.not_eq_true'] at h
        obtain ⟨rfl, h⟩ := h
        split at h
        · exact se_fst (sf_ok (ih.e ok false) h)
        · cases h
      · split at h
        · exact se_dnew
        · simp only [Bool.and_eq_true] at h
          exact se_dct1 (ih.e ok false _ _ h.1) (ih.e ok false _ _ h.2)
        · cases h
      · simp only [Bool.and_eq_true, Bool.not_eq_true'] at h
        obtain ⟨rfl, h⟩ := h
        split at h
        · simp only [Bool.and_eq_true] at h
          exact se_and (ih.e ok false _ _ h.1) (se_one (ih.e ok false _ _ h.2))
        · simp only [Bool.and_eq_true] at h
          exact se_and (ih.e ok false _ _ h.1) (ih.e ok false _ _ h.2)
        · cases h
      · simp only [Bool.and_eq_true, Bool.not_eq_true'] at h
        obtain ⟨rfl, h⟩ := h
        split at h
        · simp only [Bool.and_eq_true] at h
          exact se_or (ih.e ok false _ _ h.1) (se_one (ih.e ok false _ _ h.2))
        · simp only [Bool.and_eq_true] at h
          exact se_or (ih.e ok false _ _ h.1) (ih.e ok false _ _ h.2)
        · cases h
      · simp only [Bool.and_eq_true, Bool.not_eq_true'] at h
        obtain ⟨rfl, h⟩ := h
        split at h
        · exact se_not (ih.e ok false _ _ h)
        · cases h
      · split at h
        · simp only [Bool.and_eq_true] at h
          exact se_ite (ih.t ok _ _ h.1.1) (ih.e ok m _ _ h.1.2) (ih.e ok m _ _ h.2)
        · cases h
      · simp only [Bool.and_eq_true, Bool.not_eq_true'] at h
        obtain ⟨rfl, h⟩ := h
        split at h
        · simp only [Bool.and_eq_true, Bool.not_eq_true'] at h
          obtain ⟨⟨⟨⟨⟨c1, c2⟩, ha⟩, hb⟩, hc⟩, hm⟩ := h
          obtain ⟨r1, q1, q2⟩ := cmp_ok ok c1
          obtain ⟨r2, q3, q4⟩ := cmp_ok ok c2
          exact se_chn q1 q3 q2 q4 (ih.e ok false _ _ ha) (ih.e ok false _ _ hb) (ih.e ok false _ _ hc) hm
        · cases h
      · simp only [Bool.and_eq_true] at h
        obtain ⟨hca, h⟩ := h
        split at h
        · simp only [Bool.and_eq_true] at h
          obtain ⟨⟨⟨⟨⟨h1, h2⟩, h4⟩, h5⟩, h6⟩, h7⟩ := h
          exact call_ok ok (ih.e ok false) hca h1 h2 h4 h5 h6 h7
        · cases h
      · simp only [Bool.and_eq_true, Bool.not_eq_true'] at h
        obtain ⟨rfl, h⟩ := h
        exact se_cel (ih.e ok true _ _ h)
      · simp only [Bool.and_eq_true, Bool.not_eq_true'] at h
        obtain ⟨rfl, h⟩ := h
        split at h
        · simp only [Bool.and_eq_true, decide_eq_true_eq] at h
          obtain ⟨⟨⟨⟨rfl, h2⟩, h3⟩, h4⟩, h5⟩ := h
          obtain ⟨x, p, rfl, q1, q2, q3, q4⟩ := slot_inv ok h2
          exact se_pop q1 q2 q3 q4 (ih.e ok false _ _ h4) h3 h5
        · cases h
      · simp only [Bool.and_eq_true, Bool.not_eq_true'] at h
        obtain ⟨rfl, h⟩ := h
        split at h
        · simp only [Bool.and_eq_true, decide_eq_true_eq] at h
          obtain ⟨rfl, h2⟩ := h
          obtain ⟨x, p, rfl, q1, q2, q3, q4⟩ := slot_inv ok h2
          exact se_xfl ok.ekit q1 q2 q3 q4
        · cases h
      · simp only [Bool.and_eq_true, Bool.not_eq_true'] at h
        obtain ⟨rfl, h⟩ := h
        split at h
        · simp only [Bool.and_eq_true, decide_eq_true_eq, List.contains_iff_mem] at h
          obtain ⟨⟨⟨⟨⟨rfl, h1⟩, h2⟩, rfl⟩, h3⟩, h4⟩ := h
          obtain ⟨x, p, rfl, q1, q2, q3, q4⟩ := slot_inv ok h2
          obtain ⟨k1, k2⟩ := ok.xn _ h4
          exact se_xis ok.ekit q1 q2 q3 q4 (ok.gl h1).1 (ok.blt _ (by decide)) rfl k1 (ok.gl h3).1 k2 (odd_inv (ok.gl h3).2).1
        · cases h
      · exact sub_ok ih ok h
      · simp only [Bool.and_eq_true, Bool.not_eq_true'] at h
        obtain ⟨⟨hca, rfl⟩, h⟩ := h
        split at h
        · simp only [Bool.and_eq_true, decide_eq_true_eq] at h
          obtain ⟨⟨⟨⟨⟨⟨h1, h2⟩, h3⟩, h4⟩, h5⟩, h6⟩, h7⟩ := h
          exact make_ok ok (ih.e ok false) hca h1 h2 h3 h4 h5 h6 h7
        · cases h
      · simp only [Bool.and_eq_true, Bool.not_eq_true'] at h
        obtain ⟨⟨rfl, hca⟩, h⟩ := h
        split at h
        · simp only [Bool.and_eq_true, decide_eq_true_eq] at h
          obtain ⟨⟨⟨⟨⟨⟨⟨⟨h1, h2⟩, h3⟩, h4⟩, h5⟩, h6⟩, h7⟩, h8⟩, h9⟩ := h
          exact dot_ok ok (ih.e ok false) hca h1 h2 h3 h4 h5 h6 h7 h8 h9
        · simp only [Bool.and_eq_true] at h
          obtain ⟨⟨⟨hf, e1⟩, hb⟩, ho⟩ := h
          obtain rfl := (arEq_eq e1).symm
          obtain ⟨j, fx, fd, ps, kn, ⟨⟨pr, P0⟩, bd⟩, F, rm, s1, s2⟩ := mt_inv ok hca hf
          have e2 : ps.length = 1 := s2.symm
          rw [e2] at F
          exact se_propO (ok.calm hca) ok.kit kn P0 F (rm.mono (by omega)) bd (ok.er ▸ ERx_ok) (ih.e ok false _ _ ho) hb
        · simp only [Bool.and_eq_true, decide_eq_true_eq] at h
          obtain ⟨⟨⟨⟨⟨rfl, hg⟩, hf⟩, e1⟩, hst⟩, ho⟩ := h
          obtain rfl := (arEq_eq e1).symm
          obtain ⟨j, fx, fd, ps, kn, D0, F, rm, s1, s2⟩ := mt_inv ok hca hf
          exact se_lenO (ok.calm hca) D0 F (rm.mono (by omega)) s1 s2.symm ok.tk (ok.er ▸ ERx_ok) (ih.e ok false _ _ ho) (ok.gl hg).1 (ok.blt _ (by decide)) hst
        · simp only [Bool.and_eq_true, decide_eq_true_eq] at h
          obtain ⟨⟨⟨⟨⟨rfl, hg⟩, hf⟩, e1⟩, hst⟩, ho⟩ := h
          obtain rfl := (arEq_eq e1).symm
          obtain ⟨j, fx, fd, ps, kn, D0, F, rm, s1, s2⟩ := mt_inv ok hca hf
          exact se_strO (ok.calm hca) D0 F rm s1 s2.symm ok.tk (ok.er ▸ ERx_ok) (ih.e ok false _ _ ho) (ok.gl hg).1 (ok.blt _ (by decide)) hst
        · simp only [Bool.and_eq_true] at h
          obtain ⟨⟨hf, e1⟩, ho⟩ := h
          obtain rfl := (arEq_eq e1).symm
          obtain ⟨j, fx, fd, ps, kn, D0, F, rm, s1, s2⟩ := mt_inv ok hca hf
          exact se_negO (ok.calm hca) D0 F (rm.mono (by omega)) s1 s2.symm ok.tk (ok.er ▸ ERx_ok) (ih.e ok false _ _ ho)
        · exact (cm_ok ok (ih.e ok false) h).1
        · cases h
      · cases h
    · unfold cO at h
      split at h
      · obtain ⟨x, p, rfl, h1, h2, h3, h4⟩ := slot_inv ok h
        exact so_brw h1 h2 h3 h4
      · rename_i hb
        refine SO.of (ih.e ok false _ _ h) ?_
        cases t <;> first | rfl | exact absurd rfl (hb _)
    · unfold cT at h
      split at h
      · exact (sw_ok (ih.t ok) h).st
      · split at h
        · exact st_not (ih.t ok _ _ h)
        · cases h
      · split at h
        · simp only [Bool.and_eq_true, Bool.not_eq_true'] at h
          obtain ⟨⟨⟨hb, ha⟩, hb2⟩, hm⟩ := h
          obtain ⟨rr, h1, h2⟩ := cmp_ok ok hb
          exact st_cmp h1 h2 (ih.o ok _ _ ha) (ih.o ok _ _ hb2) hm
        · simp only [Bool.and_eq_true] at h
          obtain ⟨ha, h⟩ := h
          split at h
          · simp only [Bool.and_eq_true, Bool.or_eq_true, decide_eq_true_eq] at h
            rcases h with ⟨rfl, rfl⟩ | ⟨rfl, rfl⟩
            · exact st_isN (se_isN (ih.o ok _ _ ha)) (ih.o ok _ _ ha)
            · exact st_isNotN (ih.o ok _ _ ha)
          · simp only [Bool.and_eq_true, Bool.or_eq_true, decide_eq_true_eq] at h
            rcases h with ⟨rfl, rfl⟩ | ⟨rfl, rfl⟩
            · exact st_isB (ih.o ok _ _ ha)
            · exact st_isNB (ih.o ok _ _ ha)
          · cases h
        · exact (cm_ok ok (ih.e ok false) h).2
        · cases h
      · split at h
        · simp only [Bool.and_eq_true, Bool.not_eq_true'] at h
          obtain ⟨⟨⟨⟨⟨c1, c2⟩, ha⟩, hb⟩, hc⟩, hm⟩ := h
          obtain ⟨r1, q1, q2⟩ := cmp_ok ok c1
          obtain ⟨r2, q3, q4⟩ := cmp_ok ok c2
          exact st_chn q1 q3 q2 q4 (ih.e ok false _ _ ha) (ih.e ok false _ _ hb) (ih.e ok false _ _ hc) hm
        · cases h
      · split at h
        · simp only [Bool.and_eq_true] at h
          exact st_tru (ih.e ok false _ _ h.2) h.1
        · cases h
end
end Mp
namespace Mp
open PySem PySem.Spec L2
def parB (es : List Expr) : Bool := es.all notStar && !(es.all (foldedForSure 8)) && !(es.all (constantsAlone 8))
theorem sw2 {x y : Str} {px py pt pt2 : Pos} {kt k2 : Nat} {a b : Expr} {env : Env} (hb : (env.blockKind == .function) = true) (hx : env.scope.names.lookup x = some .local) (hy : env.scope.names.lookup y = some .local) (hl : (py.line == px.line) = true) (hn : x ≠ y) (h : parB [a, b] = true) :
    swappedStores [.Tuple [.Name x px, .Name y py] kt pt] (.Tuple [a, b] k2 pt2) env = pure (some [x, y]) := by
  unfold parB at h
  simp only [Bool.and_eq_true, Bool.not_eq_true'] at h
  obtain ⟨⟨h1, h2⟩, h3⟩ := h
  have kx : env.kindOf x = some .local := hx
  have ky : env.kindOf y = some .local := hy
  have hbk : env.blockKind = .function := by simpa using hb
  have hl' : py.line = px.line := by simpa using hl
  unfold swappedStores
  simp only [List.length_cons, List.length_nil, h2, h3, kx, ky, hbk, hl', Expr.pos, List.head?_cons, Option.map_some, Option.getD_some, List.filterMap_cons, List.filterMap_nil, beq_self_eq_true, Bool.and_self, if_true, Bool.not_true, bne_self_eq_false, Bool.or_self, Bool.false_eq_true, if_false]
  have hd : ([x, y] : List Str).eraseDups.length = 2 := by
    have : (y == x) = false := by simpa using fun z => hn z.symm
    simp [List.eraseDups, List.eraseDupsBy, List.eraseDupsBy.loop, this]
  have ha : notStar a = true ∧ notStar b = true := by simpa using h1
  simp [hd]
  intro q
  exfalso
  rcases q with q | q
  · cases a <;> first | (cases q; done) | (cases ha.1; done)
  · cases b <;> first | (cases q; done) | (cases ha.2; done)
theorem sw3 {x y z : Str} {px py pz pt pt2 : Pos} {kt k2 : Nat} {a b c : Expr} {env : Env} (hb : (env.blockKind == .function) = true) (hx : env.scope.names.lookup x = some .local) (hy : env.scope.names.lookup y = some .local) (hz : env.scope.names.lookup z = some .local) (hl : (py.line == px.line) = true) (hl2 : (pz.line == px.line) = true)
    (hn : x ≠ y) (hn2 : x ≠ z) (hn3 : y ≠ z) (h : parB [a, b, c] = true) : swappedStores [.Tuple [.Name x px, .Name y py, .Name z pz] kt pt] (.Tuple [a, b, c] k2 pt2) env = pure (some [x, y, z]) := by
  unfold parB at h
  simp only [Bool.and_eq_true, Bool.not_eq_true'] at h
  obtain ⟨⟨h1, h2⟩, h3⟩ := h
  have kx : env.kindOf x = some .local := hx
  have ky : env.kindOf y = some .local := hy
  have kz : env.kindOf z = some .local := hz
  have hbk : env.blockKind = .function := by simpa using hb
  have hl' : py.line = px.line := by simpa using hl
  have hl2' : pz.line = px.line := by simpa using hl2
  unfold swappedStores
  simp only [List.length_cons, List.length_nil, h2, h3, kx, ky, kz, hbk, hl', hl2', Expr.pos, List.head?_cons, Option.map_some, Option.getD_some, List.filterMap_cons, List.filterMap_nil, beq_self_eq_true, Bool.and_self, if_true, Bool.not_true, bne_self_eq_false, Bool.or_self, Bool.false_eq_true, if_false]
  have hd : ([x, y, z] : List Str).eraseDups.length = 3 := by
    have e1 : (y == x) = false := by simpa using fun w => hn w.symm
    have e2 : (z == x) = false := by simpa using fun w => hn2 w.symm
    have e3 : (z == y) = false := by simpa using fun w => hn3 w.symm
    simp [List.eraseDups, List.eraseDupsBy, List.eraseDupsBy.loop, e1, e2, e3]
  have ha : notStar a = true ∧ notStar b = true ∧ notStar c = true := by simpa using h1
  simp [hd]
  intro q
  exfalso
  rcases q with q | q | q
  · cases a <;> first | (cases q; done) | (cases ha.1; done)
  · cases b <;> first | (cases q; done) | (cases ha.2.1; done)
  · cases c <;> first | (cases q; done) | (cases ha.2.2; done)

/-- a comprehension that goes to a name: is the store the comprehension's last deed? -/
def swapB (z : Cz) (x : Str) (p : Pos) (e : Expr) : Bool := match e with
  | .ListComp _ _ s pos => decide (z.sc.lookup x = some .local) && (p.line == pos.line) && !(s.names.any fun (n, k) => n == x && (k == .local || k == .cell))
  | _ => false
def lcEx (r : Expr → Ex → Bool) (rl : Expr → ItK → List Ex → Tg → List Ex → Ex → List Nat → Bool) (z : Cz) (x : Str) (p : Pos) (e : Expr) (t : Ex) : Bool :=
  (notComp e && r e t) || (swapB z x p e && (match t with
    | .lc k src tg ifs elt own => rl e k src tg ifs elt own
    | _ => false))
mutual
def cS : Nat → Cz → Stmt → Sm → Bool
  | 0, _, _, _ => false
  | n + 1, z, p, q => match q with
    | .pass => (match p with
      | .Pass _ => true
      | .Expr (.Constant (.str _) _ _) _ => true
      | _ => false)
    | .brk => (match p with
      | .Break _ => true
      | _ => false)
    | .cnt => (match p with
      | .Continue _ => true
      | _ => false)
    | .ret t => (match p with
      | .Return none _ => (match t with
        | .con .non => true
        | _ => false)
      | .Return (some e) _ => cE n z z.fr e t
      | _ => false)
    | .exp t => (match p with
      | .Expr e _ => notComp e && cE n z false e t
      | _ => false)
    | .asg tg t => (match p with
      | .Assign [tge] e _ => (match tge, tg with
        | .Name x p, .nm i => decide (z.N[i]? = some x) && locB z x && lcEx (cE n z false) (fun e k src tg ifs elt own => subEx (fun z e t => cE n z false e t) (cT n) z own e k src tg ifs elt) z x p e t
        | _, _ => notStar tge && cG z tge tg && notComp e && !isTup e && cE n z false e t)
      | _ => false)
    | .asgO i t => (match p with
      | .Assign [.Name x p] e _ => decide (z.N[i]? = some x) && locB z x && lcEx (cE n z true) (fun e k src tg ifs elt own => subEx (fun z e t => cE n z false e t) (cT n) z own e k src tg ifs elt) z x p e t
      | _ => false)
    | .setI i tk t => (match p with
      | .Assign [.Subscript o k _] e _ => slotOk z o i && notComp e && !isTup e && cE n z false k tk && cE n z false e t && notSlice k
      | _ => false)
    | .app i t => (match p with
      | .Expr (.Call (.Attribute o x apos) [y] [] cpos) _ => decide (x = "append") && slotOk z o i && notStar y && cE n z false y t && (apos.endLine == cpos.line)
      | _ => false)
    | .ite c a b => (match p with
      | .If x y w _ => cT n z x c && cSs n z y a && cSs n z w b
      | _ => false)
    | .for_ k src tg body => (match p with
      | .For tge iter b [] _ => z.calm && cI (cE n z false) z iter k src && notSet iter && cG z tge tg && cSs n z b body
      | _ => false)
    | .whl c body => (match p with
      | .While x b [] _ => z.calm && cT n z x c && cSs n z b body
      | _ => false)
    | .rais c ts => (match p with
      | .Raise (some (.Call (.Name x _) [a] [] _)) none _ => z.calm && z.xn.contains c && decide (x = clsN c) && decide ((fldsOf c).length = 1) && glB z x && cA (cE n z false) [a] ts
      | _ => false)
    | .tryA body cs qs => (match p with
      | .Try b (h :: hs) [] [] _ => z.calm && cSs n z b body && cH n z (h :: hs) cs qs
      | _ => false)
    | .par is ts => (match p, is with
      | .Assign [.Tuple [.Name x px, .Name y py] _ _] (.Tuple [a, b] _ _) _, [i, j] => z.calm && decide (z.N[i]? = some x) && decide (z.N[j]? = some y) && decide (z.sc.lookup x = some .local) && decide (z.sc.lookup y = some .local) &&
        (py.line == px.line) && decide (x ≠ y) && parB [a, b] && cA (cE n z false) [a, b] ts
      | .Assign [.Tuple [.Name x px, .Name y py, .Name u pu] _ _] (.Tuple [a, b, c] _ _) _, [i, j, l] => z.calm && decide (z.N[i]? = some x) && decide (z.N[j]? = some y) && decide (z.N[l]? = some u) && decide (z.sc.lookup x = some .local) && decide (z.sc.lookup y = some .local) && decide (z.sc.lookup u = some .local) &&
        (py.line == px.line) && (pu.line == px.line) && decide (x ≠ y) && decide (x ≠ u) && decide (y ≠ u) && parB [a, b, c] && cA (cE n z false) [a, b, c] ts
      | _, _ => false)
    | .setF i f t => (match p with
      | .Assign [.Attribute o x _] e _ => decide (x = f) && slotOk z o i && notComp e && cE n z false e t
      | _ => false)
/-- the handlers -/
def cH : Nat → Cz → List ExceptHandler → List (Nat × Nat) → List (List Sm) → Bool
  | 0, _, _, _, _ => false
  | _ + 1, _, [], [], [] => true
  | n + 1, z, .ExceptHandler (some (.Name x _)) (some y) (b :: bs) _ :: hs, (k, i) :: cs, q :: qs => z.xn.contains k && decide (x = clsN k) && glB z x && decide (z.N[i]? = some y) && decide (z.sc.lookup y = some .local) &&
    cSs n { z with calm := false } (b :: bs) q && cH n z hs cs qs
  | _ + 1, _, _, _, _ => false
def cSs : Nat → Cz → List Stmt → List Sm → Bool
  | 0, _, _, _ => false
  | _ + 1, _, [], [] => true
  | n + 1, z, p :: ps, q :: qs => cS n z p q && cSs n z ps qs
  | _ + 1, _, _, _ => false
end
structure SxOk (X : Cx) (ER : ExT) (Wx : WX) (C : Calls) (z : Cz) : Prop where
  cx : CxOk X ER Wx C z
  po : z.calm = true → PassesOwn (model X.prog X.w) X.A X.env X.xe
  bk : (X.env.blockKind == .function) = true
  stk : X.stack = X.env :: X.outer
  frm : X.env.frame = some X.env.locals
section
variable {X : Cx} {ER : ExT} {Wx : WX} {C : Calls} {z : Cz} {m : Bool} {n : Nat}
theorem tLc_mono {wi : TI} {g : TG} {tt : TT} {te : TE} {vs : List Nat} {σ : L2.St} {H : Hp} {Q Q' : VK} (hwi : ∀ R R' : It → Hp → Prop, (∀ J H, R J H → R' J H) → wi σ H R → wi σ H R') (h : tLc wi g tt te vs σ H Q) (i : ∀ v H', Q v H' → Q' v H') : tLc wi g tt te vs σ H Q' := by
  refine hwi _ _ (fun J H1 h D hD => ?_) h
  obtain ⟨W, w0, w1⟩ := h D hD
  refine ⟨W, w0, fun a b H2 w => ?_⟩
  rcases w1 a b H2 w with ⟨x, y⟩ | x
  · exact .inl ⟨x, i _ _ y⟩
  · exact .inr x
theorem rdI_mono {K : Kc} {k : ItK} {w : Stt → (List D → Stt → Prop) → PX → Prop} {σ : L2.St} {H : Hp} {R R' : It → Hp → Prop} (i : ∀ J H, R J H → R' J H) (h : rdI K ER Wx k w σ H R) : rdI K ER Wx k w σ H R' := by
  obtain ⟨g, st, Qd, Xd, A, w, h1, h2, h3⟩ := h
  exact ⟨g, st, Qd, Xd, A, w, h1, fun ds st' items J g' H' a b c d e => i _ _ (h2 _ _ _ _ _ _ a b c d e), h3⟩
theorem ss_lcN {x : Str} {i : Nat} {e : Expr} {p pos : Pos} {own : List Nat} {k : ItK} {src ifs : List Ex} {tg : Tg} {elt : Ex} (ok : SxOk X ER Wx C z) (hi : X.N[i]? = some x) (hs : swapB z x p e = true) (h : subEx (fun z e t => cE n z false e t) (cT n) z own e k src tg ifs elt = true) :
    SS X ER Wx C m (.Assign [.Name x p] e pos) (.asg (.nm i) (.lc k src tg ifs elt own)) ∧ SS X ER Wx C m (.Assign [.Name x p] e pos) (.asgO i (.lc k src tg ifs elt own)) := by
  have hca := sub_calm h
  obtain ⟨y, tge, iter, fs, scope, pos', rfl, h1, h2, h3, h4, h5, h6, h7, h8⟩ := sub_inv (okn n) ok.cx h
  have hs' : (z.sc.lookup x = some .local ∧ (p.line == pos'.line) = true) ∧ (scope.names.any fun (n, k) => n == x && (k == .local || k == .cell)) = false := by simpa [swapB] using hs
  have hsw : swapsWith (.ListComp y [⟨tge, iter, fs, 0⟩] scope pos') (some (.Name x p)) pos.line X.env = pure true := by
    unfold swapsWith
    show (pure (X.env.blockKind == .function && X.env.kindOf x == some .local && p.line == pos'.line && !(scope.names.any fun (n, k) => n == x && (k == .local || k == .cell))) : Sem Bool) = pure true
    rw [hs'.2, hs'.1.2, ok.bk, show X.env.kindOf x = some .local by unfold Env.kindOf; rw [ok.cx.sc]; exact hs'.1.1]
    rfl
  have ek : ∀ (s : Shared) (H : Hp) (c : Addr) (cl : List (Str × Addr)) (fp : List Addr), kz (X.blk s H scope (compEnvC scope cl c X.env) fp) = kz X := fun s H c cl fp => by rw [kz_calm (ok.cx.calm hca), kz_calm (X := X.blk s H scope (compEnvC scope cl c X.env) fp) (ok.cx.calm hca)]
  have h4 : ∀ (s : Shared) (H : Hp) (c : Addr) (cl : List (Str × Addr)) (fp : List Addr), PG (X.blk s H scope (compEnvC scope cl c X.env) fp) tge (rdG (kz X) tg) := fun s H c cl fp => by rw [← ek s H c cl fp]; exact h4 s H c cl fp
  have h5 : ∀ (s : Shared) (H : Hp) (c : Addr) (cl : List (Str × Addr)) (fp : List Addr), PTs (X.blk s H scope (compEnvC scope cl c X.env) fp) fs (rdT (kz X) ER W0 (wTs C ifs)) := fun s H c cl fp => by rw [← ek s H c cl fp]; exact h5 s H c cl fp
  have h6 : ∀ (s : Shared) (H : Hp) (c : Addr) (cl : List (Str × Addr)) (fp : List Addr), PE (X.blk s H scope (compEnvC scope cl c X.env) fp) y (rdE (kz X) ER W0 (wE C elt) false) := fun s H c cl fp => by rw [← ek s H c cl fp]; exact h6 s H c cl fp
  have base := ps_setLc (g := rdG (kz X) tg) (tt := rdT (kz X) ER W0 (wTs C ifs)) (te := rdE (kz X) ER W0 (wE C elt) false) (ok.cx.calm hca) ok.cx.nd hi (by rw [ok.cx.sc]; exact hs'.1.1) hsw h1 h2 h4 h5 h6 h7
  refine ⟨psImp base fun D s H h => ?_, psImp base fun D s H h => ?_⟩
  · have q := rdSt_asg h
    rw [h3]
    exact tLc_mono (fun R R' i => rdI_mono i) (rd_lc (by rw [← h3]; exact h8) q) fun v H' q => rdG_nm q
  · have q := rdSt_asgO h
    rw [h3]
    exact rd_lc (by rw [← h3]; exact h8) q
theorem asg_sub {o k : Expr} {p : Pos} {env : Env} (h : notSlice k = true) (v : Value) : assign (.Subscript o k p) env v = (do
      let ov ← holding [v] (eval o env)
      let iv ← holding [v, ov] (eval k env)
      standAt p
      holding [v, ov, iv] (setItem ov iv v)
      release [v, ov, iv] []) := by
  cases k <;> first | rfl | cases h
theorem CxOk.suite (ok : CxOk X ER Wx C z) (a : Addr) (oe : Obj) (pn : List (Addr × Obj)) : CxOk (X.suite a ((a, oe) :: pn)) ER W0 C { z with calm := false } :=
  { nd := ok.nd, hN := ok.hN, calm := fun z => (by cases z), kd := ok.kd, sc := ok.sc, fn := ok.fn, un := ok.un, blt := ok.blt, glo := ok.glo, rm := fun z => (by cases z),
    fns := fun z => (by cases z), tk := takes_none5, er := ok.er, kit := ok.kit, sy := ok.sy, ekit := ok.ekit, htop := ok.htop, kn := ok.kn, xn := ok.xn, mkc := fun z => (by cases z), mt := fun z => (by cases z) }
structure Oks (n : Nat) : Prop where
  s : ∀ {X : Cx} {ER : ExT} {Wx : WX} {C : Calls} {z : Cz}, SxOk X ER Wx C z → ∀ p q, cS n z p q = true → SS X ER Wx C z.fr p q
  ss : ∀ {X : Cx} {ER : ExT} {Wx : WX} {C : Calls} {z : Cz}, SxOk X ER Wx C z → ∀ p q, cSs n z p q = true → SSs X ER Wx C z.fr p q
  h : ∀ {X : Cx} {ER : ExT} {Wx : WX} {C : Calls} {z : Cz}, SxOk X ER Wx C z → z.calm = true → ∀ hs cs qs, cH n z hs cs qs = true → HdsM X ER C z.fr hs cs qs
theorem oks : ∀ n, Oks n
  | 0 => ⟨fun _ p q h => by simp [cS] at h, fun _ p q h => by simp [cSs] at h, fun _ _ hs cs qs h => by simp [cH] at h⟩
  | n + 1 => by
    have ih := oks n
    refine ⟨@fun X ER Wx C z ok p q h => ?_, @fun X ER Wx C z ok p q h => ?_, @fun X ER Wx C z ok hca hs cs qs h => ?_⟩
    · unfold cS at h
      split at h
      · split at h
        · exact ss_pass
        · exact ss_doc
        · cases h
      · split at h
        · exact ss_brk
        · cases h
      · split at h
        · exact ss_cnt
        · cases h
      · split at h
        · split at h
          · exact ss_retN
          · cases h
        · exact ss_ret ((okn n).e ok.cx _ _ _ h)
        · cases h
      · split at h
        · simp only [Bool.and_eq_true] at h
          exact ss_exp ((okn n).e ok.cx _ _ _ h.2) h.1
        · cases h
      · split at h
        · split at h
          · simp only [Bool.and_eq_true, decide_eq_true_eq] at h
            obtain ⟨⟨h1, h2⟩, h3⟩ := h
            have h1' := h1
            rw [← ok.cx.hN] at h1'
            obtain ⟨l, f⟩ := ok.cx.loc h2
            unfold lcEx at h3
            simp only [Bool.or_eq_true, Bool.and_eq_true] at h3
            rcases h3 with ⟨h4, h5⟩ | ⟨h4, h5⟩
            · exact ss_asgN ok.cx.nd h1' l f ((okn n).e ok.cx _ _ _ h5) h4
            · split at h5
              · exact (ss_lcN ok h1' h4 h5).1
              · cases h5
          · simp only [Bool.and_eq_true, Bool.not_eq_true'] at h
            obtain ⟨⟨⟨⟨h1, h2⟩, h3⟩, h4⟩, h5⟩ := h
            exact ss_asgT (cG_ok ok.cx h2) ((okn n).e ok.cx _ _ _ h5) h3 h4 (by rw [each_of h1]; rfl)
        · cases h
      · split at h
        · simp only [Bool.and_eq_true, decide_eq_true_eq] at h
          obtain ⟨⟨h1, h2⟩, h3⟩ := h
          have h1' := h1
          rw [← ok.cx.hN] at h1'
          obtain ⟨l, f⟩ := ok.cx.loc h2
          unfold lcEx at h3
          simp only [Bool.or_eq_true, Bool.and_eq_true] at h3
          rcases h3 with ⟨h4, h5⟩ | ⟨h4, h5⟩
          · exact ss_asgO ok.cx.nd h1' l f ((okn n).e ok.cx _ _ _ h5) h4
          · split at h5
            · exact (ss_lcN ok h1' h4 h5).2
            · cases h5
        · cases h
      · split at h
        · simp only [Bool.and_eq_true, Bool.not_eq_true'] at h
          obtain ⟨⟨⟨⟨⟨h1, h2⟩, h3⟩, h4⟩, h5⟩, h6⟩ := h
          obtain ⟨x, p, rfl, q1, q2, q3, q4⟩ := slot_inv ok.cx h1
          exact ss_setI q1 q2 q3 q4 ((okn n).e ok.cx _ _ _ h4) ((okn n).e ok.cx _ _ _ h5) h2 h3 (asg_sub h6)
        · cases h
      · split at h
        · simp only [Bool.and_eq_true, decide_eq_true_eq] at h
          obtain ⟨⟨⟨⟨rfl, h2⟩, h3⟩, h4⟩, h5⟩ := h
          obtain ⟨x, p, rfl, q1, q2, q3, q4⟩ := slot_inv ok.cx h2
          exact ss_app q1 q2 q3 q4 ((okn n).e ok.cx _ _ _ h4) h3 h5
        · cases h
      · split at h
        · simp only [Bool.and_eq_true] at h
          exact ss_ite ((okn n).t ok.cx _ _ h.1.1) (ih.ss ok _ _ h.1.2) (ih.ss ok _ _ h.2)
        · cases h
      · split at h
        · simp only [Bool.and_eq_true] at h
          obtain ⟨⟨⟨⟨h0, h1⟩, h2⟩, h3⟩, h4⟩ := h
          exact ss_for (ok.po h0) (ok.cx.calm h0) (cI_ok ok.cx ((okn n).e ok.cx false) h1) (cG_ok ok.cx h3) (ih.ss ok _ _ h4) (folded_of h2 _)
        · cases h
      · split at h
        · simp only [Bool.and_eq_true] at h
          exact ss_whl (ok.po h.1.1) ((okn n).t ok.cx _ _ h.1.2) (ih.ss ok _ _ h.2)
        · cases h
      · split at h
        · rename_i x p1 a p2 p3
          simp only [Bool.and_eq_true, decide_eq_true_eq, List.contains_iff_mem] at h
          obtain ⟨⟨⟨⟨⟨hca, h1⟩, rfl⟩, h3⟩, h4⟩, h5⟩ := h
          obtain ⟨k1, k2⟩ := ok.cx.xn _ h1
          obtain ⟨f, hf⟩ := List.length_eq_one_iff.mp h3
          obtain ⟨k, hr⟩ := ok.cx.rm hca
          obtain ⟨gl, od⟩ := ok.cx.gl h4
          obtain ⟨sl, sn, ln⟩ := sl_ok ((okn n).e ok.cx false) h5
          exact ss_rais (ok.cx.calm hca) ok.cx.er ok.cx.ekit k1 hf rfl k2 ok.cx.htop hr.toRoom gl (odd_inv od).1 ok.cx.tk sl ln (by simpa using sn)
        · cases h
      · split at h
        · simp only [Bool.and_eq_true] at h
          obtain ⟨⟨hca, h1⟩, h2⟩ := h
          refine ss_try (ok.cx.calm hca) ok.cx.er ok.cx.ekit ok.stk ok.frm ok.cx.nd ok.cx.tk (fun W pn xe t p => ih.ss (X := X.tr pn xe) (z := z) ⟨{ nd := ok.cx.nd, hN := ok.cx.hN, calm := ok.cx.calm, kd := ok.cx.kd, sc := ok.cx.sc, fn := ok.cx.fn, un := ok.cx.un, blt := ok.cx.blt, glo := ok.cx.glo, rm := ok.cx.rm, fns := ok.cx.fns, tk := t, er := ok.cx.er, kit := ok.cx.kit, sy := ok.cx.sy, ekit := ok.cx.ekit, htop := ok.cx.htop, kn := ok.cx.kn, xn := ok.cx.xn, mkc := ok.cx.mkc, mt := ok.cx.mt }, fun _ => p, ok.bk, ok.stk, ok.frm⟩ _ _ h1) (ih.h ok hca _ _ _ h2)
        · cases h
      · split at h
        · simp only [Bool.and_eq_true, decide_eq_true_eq] at h
          obtain ⟨⟨⟨⟨⟨⟨⟨⟨hca, h1⟩, h2⟩, h3⟩, h4⟩, h5⟩, h6⟩, h7⟩, h8⟩ := h
          obtain ⟨sl, sn, ln⟩ := sl_ok ((okn n).e ok.cx false) h8
          rw [← ok.cx.hN] at h1 h2
          rw [← ok.cx.sc] at h3 h4
          refine ss_par2 (ok.cx.calm hca) ok.cx.nd h1 h2 (fun z => ?_) h3 h4 sl ln (sw2 ok.bk h3 h4 h5 h6 h7)
          rw [z, h2] at h1
          cases h1
          exact h6 rfl
        · simp only [Bool.and_eq_true, decide_eq_true_eq] at h
          obtain ⟨⟨⟨⟨⟨⟨⟨⟨⟨⟨⟨⟨⟨hca, h1⟩, h2⟩, h2b⟩, h3⟩, h4⟩, h4b⟩, h5⟩, h5b⟩, h6⟩, h6b⟩, h6c⟩, h7⟩, h8⟩ := h
          obtain ⟨sl, sn, ln⟩ := sl_ok ((okn n).e ok.cx false) h8
          rw [← ok.cx.hN] at h1 h2 h2b
          rw [← ok.cx.sc] at h3 h4 h4b
          refine ss_par3 (ok.cx.calm hca) ok.cx.nd h1 h2 h2b (fun z => ?_) (fun z => ?_) (fun z => ?_) h3 h4 h4b sl ln (sw3 ok.bk h3 h4 h4b h5 h5b h6 h6b h6c h7)
          · rw [z, h2] at h1
            cases h1
            exact h6 rfl
          · rw [z, h2b] at h1
            cases h1
            exact h6b rfl
          · rw [z, h2b] at h2
            cases h2
            exact h6c rfl
        · cases h
      · split at h
        · simp only [Bool.and_eq_true, decide_eq_true_eq, Bool.not_eq_true'] at h
          obtain ⟨⟨⟨rfl, h2⟩, h3⟩, h5⟩ := h
          obtain ⟨x, p, rfl, q1, q2, q3, q4⟩ := slot_inv ok.cx h2
          exact ss_setF ok.cx.kit q1 q2 q3 q4 ((okn n).e ok.cx _ _ _ h5) h3
        · cases h
    · unfold cSs at h
      split at h
      · rename_i e; cases e
      · exact sss_nil
      · rename_i e
        cases e
        simp only [Bool.and_eq_true] at h
        exact sss_cons (ih.s ok _ _ h.1) (ih.ss ok _ _ h.2)
      · cases h
    · unfold cH at h
      split at h
      · rename_i e; cases e
      · exact .nil
      · rename_i n' z' x p1 y b bs p2 hs k i cs q qs e
        cases e
        simp only [Bool.and_eq_true, decide_eq_true_eq, List.contains_iff_mem] at h
        obtain ⟨⟨⟨⟨⟨⟨h1, rfl⟩, h3⟩, h4⟩, h5⟩, h6⟩, h7⟩ := h
        obtain ⟨k1, k2⟩ := ok.cx.xn _ h1
        obtain ⟨gl, od⟩ := ok.cx.gl h3
        refine .cons k1 ⟨gl, (odd_inv od).1, .inl k2⟩ (by rw [ok.cx.hN]; exact h4) (by unfold Env.kindOf; rw [ok.cx.sc]; exact h5) (fun a oe pn => ?_) (ih.h ok hca _ _ _ h7)
        exact ih.ss ⟨ok.cx.suite a oe pn, fun z => (by cases z), ok.bk, ok.stk, ok.frm⟩ _ _ h6
      · cases h
end
end Mp
namespace Mp
open PySem PySem.Spec L2

/-- where a def stands: a name of the module; a class and its method; a class and its property -/
inductive Wh where
  | glo (x : Str) | mth (c : Nat) (x : Str) | prp (c : Nat) (x : Str)
/-- a def's text and its small program -/
structure FT where
  x : Str
  qual : Str
  params : Arguments
  body : List Stmt
  scope : Scope
  N : List Str
  ps : List Str
  fn : Fn
  wh : Wh := .glo x
  dfl : List D := []
  kwd : List (Str × D) := []
/-- what the checks know of the module: constants, functions, classes, errors -/
structure Md where
  glo : List (Str × D)
  fns : List (Str × Nat × Bool × List ShT)
  kn : List Nat
  xn : List Nat
  mkc : List (Nat × Nat × List ShT)
  mt : List (Nat × Str × MK × Nat × List ShT)
def FT.z (t : FT) (M : Md) : Cz := ⟨t.N, t.scope.names, none, M.glo, M.fns, true, t.fn.fr, M.kn, M.xn, M.mkc, M.mt⟩
def FT.ok (t : FT) (n : Nat) (M : Md) : Bool :=
  cSs n (t.z M) t.body t.fn.body && decide (t.fn.ns = t.N.length) && decide (t.fn.np = t.ps.length) &&
  decide (t.scope.kind = .function) && !t.scope.isCoroutine && !t.scope.isGenerator && decide t.N.Nodup && decide (t.N.take t.ps.length = t.ps) &&
  t.ps.all (fun x => decide (t.scope.names.lookup x = some .local) || decide (t.scope.names.lookup x = some .cell)) && t.scope.names.all (fun y => decide (y.2 ≠ .free))
theorem FT.inv {t : FT} {n : Nat} {M : Md} (h : t.ok n M = true) :
    cSs n (t.z M) t.body t.fn.body = true ∧ t.fn.ns = t.N.length ∧ t.fn.np = t.ps.length ∧ FnScope t.N t.ps t.scope := by
  unfold FT.ok at h
  simp only [Bool.and_eq_true, decide_eq_true_eq, Bool.not_eq_true'] at h
  obtain ⟨⟨⟨⟨⟨⟨⟨⟨⟨h1, h2⟩, h3⟩, h4⟩, h5⟩, h6⟩, h7⟩, h8⟩, h9⟩, h10⟩ := h
  refine ⟨h1, h2, h3, ⟨h4, h5, h6, h7, h8, fun x hx => ?_, fun y hy => ?_⟩⟩
  · simpa using List.all_eq_true.mp h9 x hx
  · simpa using List.all_eq_true.mp h10 y hy

section
variable {K : Kc} {g : Gh} {st : Stt} {s : L2.St} {H : Hp}
theorem Abs.toC (A : Abs K g st s H) : AbsC K g st.h H :=
  ⟨A.mw, A.wt, fun i x e => by simp at e, fun i j a h => by obtain ⟨⟨d, e⟩, _⟩ := h; simp at e, fun i a l h => by obtain ⟨⟨d, e⟩, _⟩ := h; simp at e, A.ce, A.cc⟩
theorem abs_start {f : Fn} {N : List Str} {ds : List D} {vs : List V} {h : List CO} (A : AbsC K g h H) (r : Reps K g h.length H ds vs) (hn : f.ns = N.length) : Abs K g ⟨startE f ds, h⟩ (start N vs) H := by
  have get : ∀ (i : Nat) (x : Sl), (startE f ds)[i]? = some x → (∃ d, x = .shr d ∧ ds[i]? = some d) ∨ (x = .un ∧ ds.length ≤ i ∧ i < f.ns) := fun i x e => by
    unfold startE at e
    rcases Nat.lt_or_ge i ds.length with hl | hl
    · rw [List.getElem?_append_left (by simpa using hl), List.getElem?_map] at e
      have e2 : ds[i]? = some ds[i] := List.getElem?_eq_getElem hl
      rw [e2] at e
      cases e
      exact .inl ⟨_, rfl, e2⟩
    · rw [List.getElem?_append_right (by simpa using hl), List.length_map] at e
      have hlt := lt_of_get e
      rw [List.length_replicate] at hlt
      rw [List.getElem?_replicate, if_pos hlt] at e
      cases e
      exact .inr ⟨rfl, hl, by omega⟩
  have noown : ∀ i a, ¬ OwnAt (startE f ds) (start N vs) i a := fun i a ⟨⟨d, e⟩, _⟩ => by
    rcases get i _ e with ⟨_, z, _⟩ | ⟨z, _⟩ <;> cases z
  refine ⟨A.mw, A.wt, fun i x e => ?_, fun i j a h => absurd h (noown i a), fun i a l h => absurd h (noown i a), A.ce, A.cc⟩
  have hlen := r.length
  rcases get i x e with ⟨d, rfl, e2⟩ | ⟨rfl, z1, z2⟩
  · obtain ⟨v, e3, rv⟩ := r.get e2
    refine ⟨some v, ?_, v, rfl, rv⟩
    unfold L2.start
    rw [List.getElem?_append_left (by simpa using lt_of_get e3), List.getElem?_map, e3]
    rfl
  · refine ⟨none, ?_, trivial⟩
    unfold L2.start
    rw [List.getElem?_append_right (by rw [List.length_map, hlen]; exact z1), List.length_map, List.getElem?_replicate, if_pos (by omega)]
end

/-- what the module holds -/
structure MdOk (K : PySem.W.Frag) (mg : Str → Option Value) (file : Str) (T : List (Nat × FT)) (M : Md) : Prop where
  blt : ∀ x ∈ bltNames, mg x = none
  glo : ∀ p ∈ M.glo, ∃ v, conV p.2 = some v ∧ ∃ u, mg p.1 = some u ∧ RelV v u
  fns : ∀ x i fr sh, M.fns.lookup x = some (i, fr, sh) → ∃ (t : FT) (fx : Addr) (fd : FuncData) (dvs : List V) (kws : List (Str × V)), (i, t) ∈ T ∧ t.fn.fr = fr ∧ mg x = some (.ref fx) ∧ FunD K t.x t.qual t.params t.body t.scope dvs kws fx fd ∧
    ∀ q ∈ sh, Shp K fd t.ps q.1 q.2.1 q.2.2 ∧ q.2.2.length = t.ps.length
  kit : KitB K = true
  sys : sysB K = true
  ekit : ErrKit K file = true
  kn : ∀ c ∈ M.kn, isKnown K c = true ∧ mg (clsN c) = some (.ref (He.ga K (clsN c)))
  xn : ∀ c ∈ M.xn, isKnownX K c = true ∧ mg (clsN c) = some (.ref (He.ga K (clsN c)))
  mkc : ∀ q ∈ M.mkc, ∃ (t : FT) (fx : Addr) (fd : FuncData) (dvs : List V) (kws : List (Str × V)), (q.2.1, t) ∈ T ∧ t.fn.fr = false ∧ isKnown K q.1 = true ∧ mg (clsN q.1) = some (.ref (He.ga K (clsN q.1))) ∧ Mk K (He.ga K (clsN q.1)) fx ∧ FunD K t.x t.qual t.params t.body t.scope dvs kws fx fd ∧
    ∀ s ∈ q.2.2, Shp K fd t.ps s.1 s.2.1 s.2.2 ∧ s.2.2.length = t.ps.length
  mt : ∀ q ∈ M.mt, ∃ (t : FT) (fx : Addr) (fd : FuncData) (dvs : List V) (kws : List (Str × V)), (q.2.2.2.1, t) ∈ T ∧ t.fn.fr = false ∧ isKnown K q.1 = true ∧ MtAt K q.1 q.2.1 fx fd t.ps q.2.2.1 ∧ FunD K t.x t.qual t.params t.body t.scope dvs kws fx fd ∧
    ∀ s ∈ q.2.2.2.2, Shp K fd t.ps s.1 s.2.1 s.2.2 ∧ s.2.2.length = t.ps.length

section
variable {Pg : Program} {w : World} {K : PySem.W.Frag} {mg : Str → Option Value} {base : Heap} {T : List (Nat × FT)} {M : Md} {P : Nat → Option Fn}
theorem RepM.toC {K : Kc} {g : Gh} {st : Stt} {s : L2.St} {H : Hp} : ∀ {m : Bool} {d : D} {v : V}, RepM K g st s H m d v → RepC K g st.h H m d v
  | false, _, _, h => h
  | true, _, _, .inl ⟨a, e, m, r, _, nc⟩ => .inl ⟨a, e, m, r, nc⟩
  | true, _, _, .inr h => .inr h
theorem fns_run {fu : Nat} (M0 : MdOk K mg Pg.main.file T M) (htop : (Pg.main.scope.names.lookup ("super" : Str)).isSome = false) (hP : ∀ p ∈ T, P p.1 = some p.2.fn) (hT : T.all (fun p => p.2.ok fu M) = true) :
    ∀ (n i : Nat) (t : FT) (fx : Addr) (fd : FuncData) (dvs : List V) (kws : List (Str × V)), (i, t) ∈ T → FunD K t.x t.qual t.params t.body t.scope dvs kws fx fd → FnG Pg w K mg base (L2.CX Pg w) (3 * n) fx fd t.ps (spF ⟨K, none⟩ (ERx ⟨K, none⟩) (CC P n) t.fn.fr i t.ps.length)
  | 0, i, t, fx, fd, dvs, kws, _, _ => ⟨spF_len rfl, fun A outer s H args us vs Q E _ _ _ _ ⟨g, h, ds, Qd, Xd, _, _, _, w, _⟩ => by simp [CC] at w⟩
  | n + 1, i, t, fx, fd, dvs, kws, ht, F => by
    obtain ⟨hc, hns, hnp, sc⟩ := FT.inv (List.all_eq_true.mp hT (i, t) ht)
    have ih := fns_run (fu := fu) M0 htop hP hT n
    show FnG Pg w K mg base (L2.CX Pg w) (3 * n + 2 + 1) fx fd t.ps _
    refine FunD.okG F sc (spF_len rfl) fun cdv A outer s H vs Q E hr hsp => ?_
    refine ⟨rdSt ⟨K, none⟩ (ERx ⟨K, none⟩) (fun cls d _ H => E cls d H) t.fn.fr (wSs (CC P n) t.fn.body), ?_, ?_⟩
    · have cx : CxOk (cxOf (L2.CX Pg w) Pg w K mg base t.N t.qual t.scope fx cdv A outer s H E) (ERx ⟨K, none⟩) (fun cls d _ H => E cls d H) (CC P n) (t.z M) :=
        { nd := sc.nd, hN := rfl, calm := fun _ => rfl, kd := sc.kind, sc := rfl, fn := fun _ => rfl, un := (by have h0 := hr.un; show (A.deeper (PyProof.Rows.envOfC t.qual t.scope s.heap.objs.size fx cdv)).units + 65 < cLine; omega), blt := M0.blt, glo := M0.glo,
          rm := fun _ => ⟨_, hr⟩,
          fns := fun _ x f fr sh hf => by
            obtain ⟨t2, fx2, fd2, dvs2, kws2, h1, h1b, h2, h3, h4⟩ := M0.fns x f fr sh hf
            refine ⟨3 * n, fx2, fd2, t2.ps, ?_, hr.mono (by omega), h2, h3.kp, h4⟩
            rw [← h1b]
            exact ih f t2 fx2 fd2 dvs2 kws2 h1 h3
          tk := takes_of rfl rfl rfl rfl, er := rfl, kit := M0.kit, sy := M0.sys, ekit := M0.ekit, htop := htop, kn := M0.kn, xn := M0.xn,
          mkc := fun _ q hq => by
            obtain ⟨t2, fx2, fd2, dvs2, kws2, h1, h1b, h2, h2b, h2c, h3, h4⟩ := M0.mkc q hq
            refine ⟨3 * n, fx2, fd2, t2.ps, h2, h2b, h2c, ?_, hr, h4⟩
            have := ih _ t2 fx2 fd2 dvs2 kws2 h1 h3
            rw [h1b] at this
            exact this
          mt := fun _ q hq => by
            obtain ⟨t2, fx2, fd2, dvs2, kws2, h1, h1b, h2, h2c, h3, h4⟩ := M0.mt q hq
            refine ⟨3 * n, fx2, fd2, t2.ps, h2, h2c, ?_, hr, h4⟩
            have := ih _ t2 fx2 fd2 dvs2 kws2 h1 h3
            rw [h1b] at this
            exact this }
      have sx : SxOk (cxOf (L2.CX Pg w) Pg w K mg base t.N t.qual t.scope fx cdv A outer s H E) (ERx ⟨K, none⟩) (fun cls d _ H => E cls d H) (CC P n) (t.z M) := ⟨cx, fun _ => passes_of rfl, by
        show (Env.blockKind _ == ScopeKind.function) = true
        unfold Env.blockKind
        rw [show (cxOf (L2.CX Pg w) Pg w K mg base t.N t.qual t.scope fx cdv A outer s H E).env.scope.kind = .function from sc.kind]
        rfl, rfl, rfl⟩
      exact (oks fu).ss sx _ _ hc
    · obtain ⟨g, h, ds, Qd, Xd, hl, A0, r, w, hq, hx⟩ := hsp
      have eP : P i = some t.fn := hP (i, t) ht
      have w' : (match P i with
        | some fn => ds.length = fn.np ∧ wSs (CC P n) fn.body ⟨startE fn ds, h⟩ { nx := fun st => Qd .non st.h, rt := fun d st => Qd d st.h, bk := fun _ => False, ct := fun _ => False, ex := fun c fs st => Xd c fs st.h }
        | none => False) := w
      rw [eP] at w'
      obtain ⟨_, w2⟩ := w'
      refine ⟨g, _, _, abs_start A0 r hns, w2, fun st' s' g' H' q x A' => ?_, fun d st' s' v g' H' q x A' r' => ?_, fun _ _ _ _ z => z.elim, fun _ _ _ _ z => z.elim, fun c fs st' s' cls dd g' H' q x A' r' => ?_⟩
      · refine hq _ _ _ _ _ q x A'.toC ?_
        cases t.fn.fr with
        | false => exact rfl
        | true => exact .inr ⟨rfl, rfl⟩
      · exact hq _ _ _ _ _ q x A'.toC r'.toC
      · exact hx _ _ _ _ _ _ _ q x A'.toC r'
end

/-! ### a law's end -/
theorem walk_ofM {l : PySem.W.OpenLaw} {n k : Nat} {q : Program} {loose : List Str} {XP : (Str → Option Value) → Heap → Prop} {YP : World → Heap → Prop} {d : DefRec} {x : Str}
    (hn : l.most = some n) (hn2 : n ≤ sizeLine) (hdf : d.params.defaults = []) (hr : Room k callerA)
    (F : ∀ (w : World) (mg : Str → Option Value) (fa : Addr) (h : Heap), YP w h → h.Ns mainGlobals mg → mg d.name = some (.ref fa) →
      ∃ (K : PySem.W.Frag) (fd : FuncData) (ER : ExT) (C : Calls) (i : Nat), K.In h ∧ (∀ (s : Shared) (u : Value), BindsTo s fd ⟨[u], []⟩ [(x, u)]) ∧
        (∀ ns : List Int, ns.length ≤ n → (∀ k ∈ ns, Builtin.Int.intBits k ≤ 1048576) → C i [.scr (ns.map D.int)] [] (fun d _ => d = .bl true) (fun _ _ _ => False)) ∧
        ∀ base : Heap, K.In base → base.Ns mainGlobals mg → FnG l.prog w K mg base (L2.CX l.prog w) k fa fd [x] (spF ⟨K, none⟩ ER C false i 1)) :
    PySem.W.WalkO q loose XP YP l.row.toRowW d [] (fun f vs => PySem.call f vs) := by
  refine Att.attach_callB hn hdf fun w s₀ s₁ mg mb fa o pm cd doc a vs ns G Y ho hd hcd hmg hobj hints hlen hbits hg => ?_
  obtain ⟨K, fd, ER, C, i, KX, hb, hsp, hF⟩ := F w mg fa _ Y G.T.g hmg
  refine law_callG KX G.T.g G.T.b G.T.builtins G.T.nolimit hg hobj hints (Nat.le_trans hlen hn2) hr hF hb (fun H hO hS => ?_) fun H e s' ⟨_, _, _, _, _, _, _, _, _, _, _, _, z⟩ => z
  let g : Gh := ⟨fun _ => 0, fun _ => False, fun _ => False⟩
  have rs : ∀ ns : List Int, Reps ⟨K, none⟩ g 0 H (ns.map D.int) (ns.map V.int) := fun ns => by
    induction ns with
    | nil => rfl
    | cons i ns ih => exact ⟨_, _, rfl, rfl, ih⟩
  refine ⟨g, [], [.scr (ns.map D.int)], _, _, rfl, ⟨fun _ z => z, fun _ z => z.elim, fun i x e => by simp at e, fun i j a h => by obtain ⟨⟨d, e⟩, _⟩ := h; simp at e, fun i a l h => by obtain ⟨⟨d, e⟩, _⟩ := h; simp at e, fun l o e => by simp at e, fun l m h => by obtain ⟨o, e, _⟩ := h; simp at e⟩,
    ⟨_, _, rfl, ⟨a, ns.map V.int, rfl, hS.imp (fun z => ⟨z, fun z => z⟩) id, rs ns⟩, rfl⟩, hsp ns hlen hbits, fun d h' v g' H' q x A' r => ?_, fun _ _ _ _ _ _ _ z => z.elim⟩
  subst q
  exact r
/-- the classes, the errors -/
def kitM (file : Str) (kn xn : List Nat) (K : PySem.W.Frag) : Bool := KitB K && ErrKit K file && kn.all (isKnown K) && xn.all (isKnownX K)
theorem kitM_inv {file : Str} {kn xn : List Nat} {K : PySem.W.Frag} {h : Heap} {mg : Str → Option Value} (X : K.In h) (G : h.Ns mainGlobals mg) (c : kitM file kn xn K = true) : KitB K = true ∧ ErrKit K file = true ∧
    (∀ c ∈ kn, isKnown K c = true ∧ mg (clsN c) = some (.ref (He.ga K (clsN c)))) ∧ ∀ c ∈ xn, isKnownX K c = true ∧ mg (clsN c) = some (.ref (He.ga K (clsN c))) := by
  unfold kitM at c
  simp only [Bool.and_eq_true] at c
  obtain ⟨⟨⟨h1, h2⟩, h3⟩, h4⟩ := c
  refine ⟨h1, h2, fun k hk => ?_, fun k hk => ?_⟩
  · have q := List.all_eq_true.mp h3 k hk
    exact ⟨q, PySem.W.mg_of X G (known_ns q)⟩
  · have q := List.all_eq_true.mp h4 k hk
    exact ⟨q, PySem.W.mg_of X G (knownX_ns q)⟩
/-! ### what stands in the module behind its top -/
def refA : Option (Option Value) → Addr
  | some (some (.ref a)) => a
  | _ => 0
def Wh.ad (K : PySem.W.Frag) : Wh → Addr
  | .glo x => He.ga K x
  | .mth c x => refA (PySem.W.findIn K (.ref (He.ga K (clsN c))) x)
  | .prp c x => match PySem.W.recIn K (refA (PySem.W.findIn K (.ref (He.ga K (clsN c))) x)) "property" with
    | some (.ref g :: _) => g
    | _ => 0
def fnA (K : PySem.W.Frag) (a : Addr) : He.FnW := match K.lookup a with
  | some ⟨_, _, .func fd, _⟩ => some (fd.name, fd.qualname, fd.params, fd.body, fd.scope, fd.globals, fd.closure, fd.builtins)
  | _ => none
def FT.val (d : FT) : He.FnW := some (d.x, d.qual, d.params, .stmts d.body, d.scope, mainGlobals, [], builtinsNs)
def FT.dvs (d : FT) : List V := d.dfl.map fun x => (conV x).getD .non
/-- a default, as the value u -/
def dfB (K : PySem.W.Frag) (d : D) (u : Value) : Option V := match conV d with
  | some v => if He.relB v u = true then some v else none
  | none => (match d, u with
    | .tup [], .ref a => (match K.lookup a with
      | some ⟨.type c, _, .seq its _, _⟩ => if c = "tuple" ∧ its.size = 0 then some (.ref a) else none
      | _ => none)
    | _, _ => none)
theorem dfB_ok {K : PySem.W.Frag} {d : D} {u : Value} {v : V} (h : dfB K d u = some v) : RelV v u ∧ ∀ x g n H, Rep ⟨K, x⟩ g n H d v := by
  unfold dfB at h
  cases e : conV d with
  | some v' =>
    rw [e] at h
    by_cases c : He.relB v' u = true
    · have h' : (if He.relB v' u = true then some v' else none) = some v := h
      rw [if_pos c] at h'
      cases h'
      exact ⟨He.relB_ok c, fun _ _ _ _ => Rep.con e⟩
    · have h' : (if He.relB v' u = true then some v' else none) = some v := h
      rw [if_neg c] at h'
      cases h'
  | none =>
    rw [e] at h
    have key : ∃ a, d = .tup [] ∧ u = .ref a ∧ (match K.lookup a with
      | some ⟨.type c, _, .seq its _, _⟩ => if c = "tuple" ∧ its.size = 0 then some (V.ref a) else none
      | _ => none) = some v := by
      cases d with
      | tup ds =>
        cases ds with
        | nil =>
          cases u with
          | ref a => exact ⟨a, rfl, rfl, h⟩
          | _ => cases h
        | cons _ _ => cases h
      | _ => cases h
    clear h
    obtain ⟨a, rfl, rfl, h⟩ := key
    split at h
    · rename_i c od its n osl hk
      split at h
      · rename_i hc
        cases h
        refine ⟨rfl, fun x g n2 H => ⟨a, [], rfl, .inr ⟨⟨.type c, od, .seq its n, osl⟩, its, n, hk, congrArg Value.type hc.1, rfl, by rw [hc.2]; exact Nat.zero_le _, ?_⟩, rfl⟩⟩
        have e0 : its.toList = [] := by
          apply List.length_eq_zero_iff.mp
          rw [Array.length_toList]
          exact hc.2
        rw [e0]
        exact .nil
      · cases h
    · cases h
def kwA (K : PySem.W.Frag) (kV : Value) : List (Str × D) → Option (List (Str × V))
  | [] => some []
  | (x, d) :: l => (match kV with
    | .ref D => (match PySem.W.nsIn K D x with
      | some (some u) => (match dfB K d u, kwA K kV l with
        | some v, some m => some ((x, v) :: m)
        | _, _ => none)
      | _ => none)
    | _ => none)
/-- the values of the keyword-only defaults -/
def KwRel (K : PySem.W.Frag) : List (Str × D) → List (Str × V) → Prop
  | [], [] => True
  | (x, d) :: l, (y, v) :: m => x = y ∧ (∀ x g n H, Rep ⟨K, x⟩ g n H d v) ∧ KwRel K l m
  | _, _ => False
theorem kwA_ok {K : PySem.W.Frag} {kV : Value} : ∀ {l : List (Str × D)} {m : List (Str × V)}, kwA K kV l = some m → KwdV K kV m ∧ KwRel K l m
  | [], m, h => by cases h; exact ⟨.inl rfl, trivial⟩
  | (x, d) :: l, m, h => by
    unfold kwA at h
    split at h
    · rename_i D
      split at h
      · rename_i u hu
        split at h
        · rename_i v m2 hv hm
          cases h
          obtain ⟨r1, r2⟩ := dfB_ok hv
          obtain ⟨q1, q2⟩ := kwA_ok hm
          refine ⟨.inr ⟨D, rfl, fun z hz => ?_⟩, rfl, r2, q2⟩
          rcases List.mem_cons.mp hz with e | e
          · subst e; exact ⟨u, hu, r1⟩
          · rcases q1 with e2 | ⟨D2, e2, h2⟩
            · rw [e2] at e; cases e
            · cases e2; exact h2 z e
        · cases h
      · cases h
    · cases h
def FT.dok (K : PySem.W.Frag) (d : FT) : Bool := PySem.W.keepIn K (.ref (d.wh.ad K)) && (match K.lookup (d.wh.ad K) with
  | some ⟨_, _, .func fd, _⟩ => PySem.W.codeIn K fd.code d.qual && (He.dflB K fd.defaults d.dvs && (kwA K fd.kwdefaults d.kwd).isSome)
  | _ => false)
theorem FT.funD {K : PySem.W.Frag} {d : FT} (e : fnA K (d.wh.ad K) = d.val) (c : d.dok K = true) : ∃ fd kws, FunD K d.x d.qual d.params d.body d.scope d.dvs kws (d.wh.ad K) fd ∧ KwRel K d.kwd kws := by
  unfold FT.dok at c
  rw [Bool.and_eq_true] at c
  obtain ⟨kp, c2⟩ := c
  unfold fnA at e
  cases q : K.lookup (d.wh.ad K) with
  | none =>
    rw [q] at c2
    cases c2
  | some o =>
    obtain ⟨oc, od, dt, osl⟩ := o
    rw [q] at c2 e
    cases dt with
    | func fd =>
      obtain ⟨n1, n2, n3, n4, n5, n6, n7, n8, n9, n10, n11, n12, n13, n14, n15⟩ := fd
      have e2 : (some (n1, n2, n3, n4, n5, n6, n7, n15) : He.FnW) = some (d.x, d.qual, d.params, .stmts d.body, d.scope, mainGlobals, [], builtinsNs) := e
      simp only [Option.some.injEq, Prod.mk.injEq] at e2
      obtain ⟨h1, h2, h3, h4, h5, h6, h7, h8⟩ := e2
      subst h1 h2 h3 h4 h5 h6 h7 h8
      have c3 : (PySem.W.codeIn K n13 d.qual && (He.dflB K n8 d.dvs && (kwA K n9 d.kwd).isSome)) = true := c2
      simp only [Bool.and_eq_true] at c3
      obtain ⟨k1, k3, k4⟩ := c3
      obtain ⟨kws, hk⟩ := Option.isSome_iff_exists.mp k4
      obtain ⟨r1, r2⟩ := kwA_ok hk
      exact ⟨_, kws, ⟨⟨oc, od, n8, n9, n10, n11, n12, n13, n14, osl, rfl, q, k1, He.dflB_ok k3, r1⟩, kp⟩, r2⟩
    | _ => cases c2
/-- how a method is asked for, by its name -/
def kindOf (x : Str) : MK := if x = "__len__" then .len else if x = "__contains__" then .in_ else if x = "__eq__" then .eq else if x = "__neg__" then .neg else if x = "__str__" then .str else .dot
def mtK (K : PySem.W.Frag) (c : Nat) (x : Str) : Bool := isKnown K c && He.eqO (PySem.W.findIn K (.ref (He.ga K (clsN c))) x) (some (some (.ref (refA (PySem.W.findIn K (.ref (He.ga K (clsN c))) x)))))
/-- what is to be seen of a place -/
def Wh.ok (K : PySem.W.Frag) : Wh → Bool
  | .glo x => He.eqO (PySem.W.nsIn K mainGlobals x) (some (some (.ref (He.ga K x))))
  | .mth c x => mtK K c x && PySem.W.isFn K (.ref (refA (PySem.W.findIn K (.ref (He.ga K (clsN c))) x))) && (if x = "__init__" then PySem.W.makesIn K (He.ga K (clsN c)) && PySem.W.keepIn K (.ref (He.ga K (clsN c)))
      else PySem.W.keepIn K (.ref (refA (PySem.W.findIn K (.ref (He.ga K (clsN c))) x))) && !(fldsOf c).contains x)
  | .prp c x => mtK K c x && He.eqO (PySem.W.specialIn K (.ref (refA (PySem.W.findIn K (.ref (He.ga K (clsN c))) x))) "__get__") (some (some (.builtin "property.__get__"))) &&
      decide (PySem.W.takesIn K (.ref (refA (PySem.W.findIn K (.ref (He.ga K (clsN c))) x))) = some true) && (match PySem.W.recIn K (refA (PySem.W.findIn K (.ref (He.ga K (clsN c))) x)) "property" with
      | some (.ref _ :: _) => true
      | _ => false)
/-- constants of the module -/
def gloB (K : PySem.W.Frag) (p : Str × D) : Bool := match PySem.W.nsIn K mainGlobals p.1, conV p.2 with
  | some (some u), some v => He.relB v u
  | _, _ => false
/-- all that is looked at -/
def chkM (file : Str) (kn xn : List Nat) (glo : List (Str × D)) (T : List (Nat × FT)) (K : PySem.W.Frag) : Bool :=
  kitM file kn xn K && sysB K && bltNames.all (fun x => He.eqO (PySem.W.nsIn K mainGlobals x) (some none)) && glo.all (gloB K) && T.all (fun p => p.2.wh.ok K && p.2.dok K)
def obsM (n : Nat) (file : Str) (kn xn : List Nat) (glo : List (Str × D)) (T : List (Nat × FT)) (g : Addr → Option Obj) : Bool × List He.FnW :=
  (chkM file kn xn glo T (He.frG g (sysModules :: cStatics :: He.asD g n)), T.map fun p => fnA (He.frG g (sysModules :: cStatics :: He.asD g n)) (p.2.wh.ad (He.frG g (sysModules :: cStatics :: He.asD g n))))
structure SaysM (file : Str) (kn xn : List Nat) (glo : List (Str × D)) (T : List (Nat × FT)) (K : PySem.W.Frag) : Prop where
  chk : chkM file kn xn glo T K = true
  fn : T.map (fun p => fnA K (p.2.wh.ad K)) = T.map fun p => p.2.val
def hookM (n : Nat) (file : Str) (kn xn : List Nat) (glo : List (Str × D)) (T : List (Nat × FT)) : PySem.W.Hook where
  α := Bool × List He.FnW
  obs := fun s => obsM n file kn xn glo T s.heap.get?
  val := fun _ => ((true, T.map fun (p : Nat × FT) => p.2.val) : Bool × List He.FnW)
  says := fun _ h => ∃ K : PySem.W.Frag, K.In h ∧ SaysM file kn xn glo T K
  of := fun _ _ e => ⟨_, He.frG_in, ⟨congrArg (fun z : Bool × List He.FnW => z.1) e, congrArg (fun z : Bool × List He.FnW => z.2) e⟩⟩
  keeps := fun _ _ _ ⟨K, hK, c⟩ k => ⟨K, PySem.W.Frag.In.keeps hK k, c⟩
theorem obsM_eq {n : Nat} {file : Str} {kn xn : List Nat} {glo : List (Str × D)} {T : List (Nat × FT)} {g : Addr → Option Obj} {s : Shared} (h : ∀ a, g a = s.heap.get? a) : obsM n file kn xn glo T g = (hookM n file kn xn glo T).obs s := by
  have e : g = s.heap.get? := funext h
  rw [e] <;> rfl
/-- no defaults: how a call binds -/
theorem shp_of {K : PySem.W.Frag} {x qual : Str} {params : Arguments} {body : List Stmt} {scope : Scope} {kws : List (Str × V)} {f : Addr} {fd : FuncData} {ps : List Str} (F : FunD K x qual params body scope [] kws f fd) (n : Nat) (ks : List Str) (ix : List Nat) (hix : ix.all (fun i => decide (i < n + ks.length)) = true)
    (h : ∀ (kV doc pm : Value) (an : Option Addr) (cdv ct : Value) (us ws : List Value), us.length = n → ws.length = ks.length → bindArgs (PySem.W.fnOf x qual params body scope .none kV doc pm an cdv ct) ⟨us, ks.zip ws⟩ = pure (ps.zip (ix.map fun i => (us ++ ws).getD i .none))) :
    Shp K fd ps n ks (ix.map .inl) := by
  obtain ⟨oc, od, dV, kV, doc, pm, an, cdv, ct, osl, rfl, lk, hcd, hD, hK⟩ := F.ex
  rcases hD with ⟨_, rfl⟩ | ⟨e, _⟩
  · refine ⟨fun us ws => if us.length = n ∧ ws.length = ks.length then ix.map fun i => (us ++ ws).getD i .none else [], fun vs zs => if vs.length = n ∧ zs.length = ks.length then arrV (fun _ => .non) (ix.map .inl) (vs ++ zs) else [], fun _ => .non, ⟨fun s us ws _ l1 l2 => ?_, @fun vs us zs ws r1 r2 => ?_⟩, fun d hm => by simp at hm, fun vs zs l1 l2 => if_pos ⟨l1, l2⟩⟩
    · rw [if_pos ⟨l1, l2⟩]
      exact .of_eq (h kV doc pm an cdv ct us ws l1 l2)
    · have e1 := r1.length
      have e2 := r2.length
      by_cases c : us.length = n ∧ ws.length = ks.length
      · rw [if_pos c, if_pos (by rw [e1, e2]; exact c)]
        have r := r1.append r2
        unfold arrV
        rw [List.map_map]
        clear h
        induction ix with
        | nil => exact .nil
        | cons i ix ih =>
          have hix' : i < n + ks.length ∧ ix.all (fun i => decide (i < n + ks.length)) = true := by simpa using hix
          refine .cons ?_ (ih hix'.2)
          have hl : i < (vs ++ zs).length := by rw [List.length_append, e1, e2, c.1, c.2]; exact hix'.1
          obtain ⟨u, hu, ru⟩ := r.get (List.getElem?_eq_getElem hl)
          show RelV ((vs ++ zs).getD i .non) ((us ++ ws).getD i .none)
          rw [List.getD_eq_getElem?_getD, List.getD_eq_getElem?_getD, hu, List.getElem?_eq_getElem hl]
          exact ru
      · rw [if_neg c, if_neg (by rw [e1, e2]; exact c)]
        exact .nil
  · exact absurd rfl e
/-- a keyword-only parameter that lacks -/
theorem shp_kw1 {K : PySem.W.Frag} {x qual : Str} {params : Arguments} {body : List Stmt} {scope : Scope} {kws : List (Str × V)} {f : Addr} {fd : FuncData} {ps : List Str} {k : Str} {d : D} (F : FunD K x qual params body scope [] kws f fd) (kr : KwRel K [(k, d)] kws) (n : Nat)
    (h : ∀ (D : Addr) (doc pm : Value) (an : Option Addr) (cdv ct : Value) (us : List Value) (u : Value), us.length = n → KwChain D [(k, u)] (bindArgs (PySem.W.fnOf x qual params body scope .none (.ref D) doc pm an cdv ct) ⟨us, []⟩) (ps.zip (us ++ [u]))) :
    Shp K fd ps n [] ((List.range n).map .inl ++ [.inr d]) := by
  obtain ⟨oc, od, dV, kV, doc, pm, an, cdv, ct, osl, rfl, lk, hcd, hD, hK⟩ := F.ex
  match kws, kr with
  | [(y, v)], ⟨ey, rv, _⟩ =>
    subst ey
    rcases hD with ⟨_, rfl⟩ | ⟨e, _⟩
    · rcases hK with e | ⟨D, rfl, hq⟩
      · cases e
      · obtain ⟨u, hu, ru⟩ := hq (k, v) (by simp)
        refine ⟨fun us _ => us ++ [u], fun vs _ => vs ++ [v], fun _ => v, ⟨fun s us ws X l1 l2 => ?_, @fun vs us zs ws r1 r2 => r1.append (.cons ru .nil)⟩, fun d' hd => ?_, fun vs zs l1 l2 => ?_⟩
        · have e0 : ws = [] := List.length_eq_zero_iff.mp l2
          subst e0
          exact BindsTo.of_looks fun M => KwChain.looks X (fun q hq2 => by
            have e1 : q = (k, u) := by simpa using hq2
            subst e1
            exact hu) (h D doc pm an cdv ct us u l1)
        · have e1 : d' = d := by simpa using hd
          subst e1
          exact rv
        · have e0 : zs = [] := List.length_eq_zero_iff.mp l2
          subst e0
          unfold arrV
          rw [List.map_append, List.map_map, List.append_nil]
          have e2 : vs = (List.range n).map fun i => vs.getD i .non := by
            apply List.ext_getElem
            · simp [l1]
            · intro i h1 h2
              simp [List.getElem?_eq_getElem h1]
          exact congrArg (· ++ [v]) e2
    · exact absurd rfl e

/-! ### the module's tables, by the list of its defs -/
def mdOf (T : List (Nat × FT)) (sh : Nat → List ShT) (glo : List (Str × D)) (kn xn : List Nat) : Md where
  glo := glo
  fns := T.filterMap fun p => match p.2.wh with
    | .glo x => some (x, p.1, p.2.fn.fr, sh p.1)
    | _ => none
  kn := kn
  xn := xn
  mkc := T.filterMap fun p => match p.2.wh with
    | .mth c x => if x = "__init__" ∧ p.2.fn.fr = false then some (c, p.1, sh p.1) else none
    | _ => none
  mt := T.filterMap fun p => match p.2.wh with
    | .mth c x => if x = "__init__" ∨ p.2.fn.fr = true then none else some (c, x, kindOf x, p.1, sh p.1)
    | .prp c x => if p.2.fn.fr = true then none else some (c, x, .prop, p.1, sh p.1)
    | _ => none
section
variable {file : Str} {kn xn : List Nat} {glo : List (Str × D)} {T : List (Nat × FT)} {K : PySem.W.Frag}
theorem SaysM.def_ (c : SaysM file kn xn glo T K) {p : Nat × FT} (hp : p ∈ T) : p.2.wh.ok K = true ∧ ∃ fd kws, FunD K p.2.x p.2.qual p.2.params p.2.body p.2.scope p.2.dvs kws (p.2.wh.ad K) fd ∧ KwRel K p.2.kwd kws := by
  have c1 := c.chk
  unfold chkM at c1
  simp only [Bool.and_eq_true] at c1
  have c2 := List.all_eq_true.mp c1.2 p hp
  rw [Bool.and_eq_true] at c2
  obtain ⟨i, hi, e⟩ := List.getElem_of_mem hp
  have e2 : (T.map fun p => fnA K (p.2.wh.ad K))[i]? = (T.map fun p => p.2.val)[i]? := by rw [c.fn]
  rw [List.getElem?_map, List.getElem?_map, List.getElem?_eq_getElem hi, e] at e2
  exact ⟨c2.1, FT.funD (Option.some.inj e2) c2.2⟩
theorem mtK_inv {c : Nat} {x : Str} (h : mtK K c x = true) : isKnown K c = true ∧ PySem.W.findIn K (.ref (He.ga K (clsN c))) x = some (some (.ref (refA (PySem.W.findIn K (.ref (He.ga K (clsN c))) x)))) := by
  unfold mtK at h
  rw [Bool.and_eq_true] at h
  exact ⟨h.1, He.eqO_ok h.2⟩
theorem kindOf_at {c : Nat} {x : Str} {fx : Addr} {fd : FuncData} {ps : List Str} (h1 : Meth K (He.ga K (clsN c)) x fx) (h2 : x ∉ fldsOf c) : MtAt K c x fx fd ps (kindOf x) := by
  have hd : Dun K c x fx := ⟨h1.at_, h1.fn⟩
  unfold kindOf
  repeat' split
  all_goals first | exact hd | exact ⟨h1, h2⟩
theorem mdM {h : Heap} {mg : Str → Option Value} {sh : Nat → List ShT} (X : K.In h) (G : h.Ns mainGlobals mg) (c : SaysM file kn xn glo T K)
    (hS : ∀ p ∈ T, ∀ (f : Addr) (fd : FuncData) (kws : List (Str × V)), FunD K p.2.x p.2.qual p.2.params p.2.body p.2.scope p.2.dvs kws f fd → KwRel K p.2.kwd kws → ∀ q ∈ sh p.1, Shp K fd p.2.ps q.1 q.2.1 q.2.2 ∧ q.2.2.length = p.2.ps.length)
    (hB : ∀ p ∈ T, ∀ c x, p.2.wh = .prp c x → ∀ (f : Addr) (fd : FuncData) (kws : List (Str × V)), FunD K p.2.x p.2.qual p.2.params p.2.body p.2.scope p.2.dvs kws f fd → Binds K fd p.2.ps []) :
    MdOk K mg file T (mdOf T sh glo kn xn) := by
  have c1 := c.chk
  unfold chkM at c1
  simp only [Bool.and_eq_true] at c1
  obtain ⟨⟨⟨⟨k1, k2⟩, k3⟩, k4⟩, _⟩ := c1
  obtain ⟨i1, i2, i3, i4⟩ := kitM_inv X G k1
  refine { blt := fun x hx => ?_, glo := fun p hp => ?_, fns := fun x i fr sh' hx => ?_, kit := i1, sys := k2, ekit := i2, kn := i3, xn := i4, mkc := fun q hq => ?_, mt := fun q hq => ?_ }
  · exact He.free_ok X G (show (He.Fa.free x).ok K = true from List.all_eq_true.mp k3 x hx)
  · have z := List.all_eq_true.mp k4 p hp
    unfold gloB at z
    split at z
    · rename_i u v e1 e2
      exact ⟨v, e2, u, PySem.W.mg_of X G e1, He.relB_ok z⟩
    · cases z
  · have hm := mem_of_lookup hx
    obtain ⟨p, hp, e⟩ := List.mem_filterMap.mp hm
    obtain ⟨wo, fd, kws, F, kr⟩ := c.def_ hp
    split at e
    · rename_i y hw
      injection e with e
      injection e with e1 e
      injection e with e2 e
      injection e with e3 e4
      subst e1 e2 e3 e4
      rw [hw] at F wo
      exact ⟨p.2, _, fd, _, kws, hp, rfl, PySem.W.mg_of X G (He.eqO_ok wo), F, hS p hp _ fd kws F kr⟩
    · cases e
  · obtain ⟨p, hp, e⟩ := List.mem_filterMap.mp hq
    obtain ⟨wo, fd, kws, F, kr⟩ := c.def_ hp
    split at e
    · rename_i cc y hw
      split at e
      · rename_i hy
        obtain ⟨hy, hfr⟩ := hy
        subst hy
        injection e with e
        subst e
        rw [hw] at F wo
        unfold Wh.ok at wo
        simp only [Bool.and_eq_true, if_true] at wo
        obtain ⟨⟨m1, m2⟩, m3, m4⟩ := wo
        obtain ⟨n1, n2⟩ := mtK_inv m1
        exact ⟨p.2, _, fd, _, kws, hp, hfr, n1, PySem.W.mg_of X G (known_ns n1), ⟨m3, n2, m2, m4⟩, F, hS p hp _ fd kws F kr⟩
      · cases e
    · cases e
  · obtain ⟨p, hp, e⟩ := List.mem_filterMap.mp hq
    obtain ⟨wo, fd, kws, F, kr⟩ := c.def_ hp
    split at e
    · rename_i cc y hw
      split at e
      · cases e
      · rename_i hy
        have hy1 : ¬ y = "__init__" := fun z => hy (.inl z)
        have hfr : p.2.fn.fr = false := by
          cases hz : p.2.fn.fr with
          | false => rfl
          | true => exact absurd (.inr hz) hy
        injection e with e
        subst e
        rw [hw] at F wo
        unfold Wh.ok at wo
        simp only [Bool.and_eq_true, if_neg hy1, Bool.not_eq_true'] at wo
        obtain ⟨⟨m1, m2⟩, m3, m4⟩ := wo
        obtain ⟨n1, n2⟩ := mtK_inv m1
        have hnf : y ∉ fldsOf cc := fun z => by
          have : (fldsOf cc).contains y = true := by simpa using z
          rw [this] at m4
          cases m4
        exact ⟨p.2, _, fd, _, kws, hp, hfr, n1, kindOf_at ⟨n2, m2, m3⟩ hnf, F, hS p hp _ fd kws F kr⟩
    · rename_i cc y hw
      split at e
      · cases e
      · rename_i hy
        have hfr : p.2.fn.fr = false := by
          cases hz : p.2.fn.fr with
          | false => rfl
          | true => exact absurd hz hy
        injection e with e
        subst e
        have hb := hB p hp cc y hw _ fd kws F
        rw [hw] at F wo
        unfold Wh.ok at wo
        simp only [Bool.and_eq_true, decide_eq_true_eq] at wo
        obtain ⟨⟨⟨m1, m2⟩, m3⟩, m4⟩ := wo
        obtain ⟨n1, n2⟩ := mtK_inv m1
        refine ⟨p.2, _, fd, _, kws, hp, hfr, n1, ⟨⟨_, n2, He.eqO_ok m2, m3, ?_⟩, hb⟩, F, hS p hp _ fd kws F kr⟩
        split at m4
        · rename_i g rest hr
          refine ⟨rest, ?_⟩
          have z : Wh.ad K (.prp cc y) = g := by
            show (match PySem.W.recIn K (refA (PySem.W.findIn K (.ref (He.ga K (clsN cc))) y)) "property" with
              | some (.ref g :: _) => g
              | _ => 0) = g
            rw [hr]
          rw [z]
          exact hr
        · cases m4
    · cases e
end
end Mp
namespace Mp
open PySem PySem.Spec L2
/-- the body of a class -/
def clsBd : Stmt → List Stmt
  | .ClassDef _ _ _ b _ _ _ _ _ _ _ => b
  | _ => []
def fn_is_integer : Fn := ⟨3, 3, [.ret (.andV (.op (.isi [.int] false) [.brw 0]) (.andV (.notV (.op (.isi [.bool] false) [.brw 0])) (.chn .le .le (.var 1) (.var 0) (.var 2))))], false⟩
def fn_is_base : Fn := ⟨1, 1, [.ret (.andV (.call 0 [.var 0, .op .neg [.con (.int 6)], .con (.int 6)] [.inl 0, .inl 1, .inl 2]) (.op .gt [.op .abs [.brw 0], .con (.int 1)]))], false⟩
def fn_is_digit : Fn := ⟨1, 1, [.ret (.call 0 [.var 0, .op .neg [.con (.int 9)], .con (.int 9)] [.inl 0, .inl 1, .inl 2])], false⟩
def fn_are_digits : Fn := ⟨1, 2, [.ret (.andV (.op (.isi [.tuple] false) [.brw 0]) (.op .all [.lc .seq [.var 0] (.nm 1) [] (.call 2 [.var 1] [.inl 0]) [1]]))], false⟩
def fn_row_text : Fn := ⟨1, 2, [.ite (.tNot (.tru (.call 3 [.var 0] [.inl 0]))) [.rais 104 [.var 0]] [],
    .ret (.ite (.tb (.op .gt [.op .len [.brw 0], .con (.int 0)])) (.op .join [.con (.str " "), .lc .seq [.var 0] (.nm 1) [] (.op .toStr [.brw 1]) [1]]) (.con (.str ".")))], false⟩
def fn_digit_of : Fn := ⟨1, 2, [.asg (.nm 1) (.op .rmpre [.brw 0, .con (.str "-")]),
    .ite (.tOr (.tb (.op .ne [.op .len [.brw 1], .con (.int 1)])) (.tOr (.tb (.op .notIn [.brw 1, .con (.str "0123456789")])) (.tb (.op .eq [.brw 0, .con (.str "-0")])))) [.ret (.con .non)] [],
    .ret (.ite (.tb (.op .eq [.brw 1, .brw 0])) (.op .index [.con (.str "0123456789"), .brw 1]) (.op .neg [.op .index [.con (.str "0123456789"), .brw 1]]))], false⟩
def fn_row_of : Fn := ⟨1, 3, [.ite (.tb (.op .eq [.brw 0, .con (.str ".")])) [.ret (.tup [])] [],
    .asg (.nm 2) (.lc .seq [.op .split [.brw 0, .con (.str " ")]] (.nm 1) [] (.call 5 [.var 1] [.inl 0]) [1]),
    .ret (.ite (.tb (.op .in_ [.con .non, .brw 2])) (.con .non) (.op .toTuple [.brw 2]))], false⟩
def fn_read_row : Fn := ⟨1, 2, [.asg (.nm 1) (.ite (.tru (.op (.isi [.str] false) [.brw 0])) (.call 6 [.var 0] [.inl 0]) (.con .non)),
    .ite (.tb (.op .isN [.brw 1])) [.rais 105 [.var 0]] [],
    .ret (.var 1)], false⟩
def fn_is_list : Fn := ⟨1, 1, [.ret (.op (.isi [.list, .tuple] true) [.brw 0])], false⟩
def fn_different : Fn := ⟨1, 1, [.ret (.op (.diff true) [.brw 0])], false⟩
def fn_is_digit_list : Fn := ⟨3, 4, [.ite (.tOr (.tNot (.tru (.call 9 [.var 0] [.inl 0]))) (.tNot (.tru (.op .all [.lc .seq [.var 0] (.nm 3) [] (.call 2 [.var 3] [.inl 0]) [3]])))) [.ret (.con (.bl false))] [],
    .ret (.chn .le .le (.var 2) (.op .len [.call 10 [.disp false [true, true] [.var 0, .var 1]] [.inl 0]]) (.con (.int 6)))], false⟩
def fn_is_pair : Fn := ⟨2, 3, [.ret (.andV (.op (.isi [.tuple] false) [.brw 0]) (.andV (.op .eq [.op .len [.brw 0], .con (.int 2)]) (.op .all [.lc .seq [.var 0] (.nm 2) [] (.andV (.call 2 [.var 2] [.inl 0]) (.op .in_ [.brw 2, .brw 1])) [2]])))], false⟩
def fn_Scheme___init__ : Fn := ⟨4, 5, [.ite (.tNot (.tru (.call 1 [.var 1] [.inl 0]))) [.rais 101 [.var 1]] [],
    .ite (.tNot (.tru (.call 11 [.var 2, .tup [], .con (.int 1)] [.inl 0, .inl 1, .inl 2]))) [.rais 102 [.var 2]] [],
    .ite (.tNot (.tru (.call 9 [.var 3] [.inl 0]))) [.rais 103 [.var 3]] [],
    .for_ .seq [.var 3] (.nm 4) [.ite (.tNot (.tru (.call 12 [.var 4, .var 2] [.inl 0, .inl 1]))) [.rais 103 [.var 4]] []],
    .setF 0 "own_base" (.var 1),
    .setF 0 "own_digits" (.call 10 [.var 2] [.inl 0]),
    .setF 0 "own_bars" (.call 10 [.var 3] [.inl 0]),
    .setF 0 "own_parts" (.tup [.op (.fld "own_base") [.brw 0], .op (.fld "own_digits") [.brw 0], .op (.fld "own_bars") [.brw 0]])], false⟩
def fn_Scheme_base : Fn := ⟨1, 1, [.ret (.op (.fld "own_base") [.brw 0])], false⟩
def fn_Scheme_digits : Fn := ⟨1, 1, [.ret (.op (.fld "own_digits") [.brw 0])], false⟩
def fn_Scheme_bars : Fn := ⟨1, 1, [.ret (.op (.fld "own_bars") [.brw 0])], false⟩
def fn_Scheme___eq__ : Fn := ⟨2, 2, [.ret (.andV (.op (.isi [(.own 0)] false) [.brw 1]) (.op .eq [.op (.fld "own_parts") [.brw 0], .op (.fld "own_parts") [.brw 1]]))], false⟩
def fn_Scheme___len__ : Fn := ⟨1, 1, [.ret (.op .len [.op (.fld "own_digits") [.brw 0]])], false⟩
def fn_Scheme_has : Fn := ⟨2, 2, [.ret (.andV (.call 2 [.var 1] [.inl 0]) (.op .in_ [.brw 1, .op (.fld "own_digits") [.brw 0]]))], false⟩
def fn_Scheme_allows : Fn := ⟨3, 3, [.ite (.tNot (.tru (.meth .dot 0 506 [.var 0, .var 1] [.inl 0, .inl 1]))) [.ret (.con (.bl false))] [],
    .ret (.orV (.op .isN [.brw 2]) (.andV (.meth .dot 0 506 [.var 0, .var 2] [.inl 0, .inl 1]) (.op .notIn [.tup [.var 1, .var 2], .op (.fld "own_bars") [.brw 0]])))], false⟩
def fn_Scheme___contains__ : Fn := ⟨2, 4, [.ite (.tOr (.tNot (.tru (.op (.isi [.tuple] false) [.brw 1]))) (.tNot (.tru (.op .all [.lc .seq [.var 1] (.nm 3) [] (.meth .dot 0 506 [.var 0, .var 3] [.inl 0, .inl 1]) [3]])))) [.ret (.con (.bl false))] [],
    .ret (.op .all [.lc .zip2 [.var 1, .op (.sl true false) [.brw 1, .con (.int 1)]] (.nm 2) [] (.op .notIn [.brw 2, .op (.fld "own_bars") [.brw 0]]) [2]])], false⟩
def fn_Scheme_value_of : Fn := ⟨2, 4, [.ite (.tb (.meth .notIn 0 508 [.var 1, .var 0] [.inl 1, .inl 0])) [.rais 104 [.var 1]] [],
    .asg (.nm 2) (.con (.int 0)),
    .for_ .seq [.var 1] (.nm 3) [.asg (.nm 2) (.op .add [.op .mul [.brw 2, .op (.fld "own_base") [.brw 0]], .brw 3])],
    .ret (.var 2)], false⟩
/-- the functions of the package, by their numbers -/
def Lib : Nat → Option Fn
  | 0 => some fn_is_integer
  | 1 => some fn_is_base
  | 2 => some fn_is_digit
  | 3 => some fn_are_digits
  | 4 => some fn_row_text
  | 5 => some fn_digit_of
  | 6 => some fn_row_of
  | 7 => some fn_read_row
  | 9 => some fn_is_list
  | 10 => some fn_different
  | 11 => some fn_is_digit_list
  | 12 => some fn_is_pair
  | 500 => some fn_Scheme___init__
  | 501 => some fn_Scheme_base
  | 502 => some fn_Scheme_digits
  | 503 => some fn_Scheme_bars
  | 504 => some fn_Scheme___eq__
  | 505 => some fn_Scheme___len__
  | 506 => some fn_Scheme_has
  | 507 => some fn_Scheme_allows
  | 508 => some fn_Scheme___contains__
  | 509 => some fn_Scheme_value_of
  | _ => none
end Mp
namespace Mp
open PySem PySem.Spec L2

/-! ### the equations, for simp -/
section
variable {C : Calls} {st : Stt} {Q : PD} {X : PX} {QA : List D → Stt → Prop} {QT : Bool → Stt → Prop} {E : EndD}
theorem wE_con {d : D} : wE C (.con d) st Q X = Q d st := by simp only [wE]
theorem wE_var {i : Nat} : wE C (.var i) st Q X = (match st.e[i]? with
    | some (.shr d) => Q d st
    | some (.own d) => Q d ⟨st.e.set i (.shr d), st.h⟩
    | _ => False) := by first | (simp only [wE]; done) | (simp only [wE]; rfl)
theorem wE_mov {i : Nat} : wE C (.mov i) st Q X = (match st.e[i]? with
    | some (.own d) => Q d ⟨st.e.set i .un, st.h⟩
    | some (.shr d) => scalD d = true ∧ Q d st
    | _ => False) := by first | (simp only [wE]; done) | (simp only [wE]; rfl)
theorem wE_op {o : Op} {es : List Ex} : wE C (.op o es) st Q X = wA C es st (fun ds st1 => opW o (ds.map (view st1.h)) fun d => Q d st1) X := by simp only [wE]
theorem wE_tup {es : List Ex} : wE C (.tup es) st Q X = wL C es st (fun ds st1 => ds.length ≤ 1000 ∧ Q (.tup ds) st1) X := by simp only [wE]
theorem wE_lst {es : List Ex} : wE C (.lst es) st Q X = wL C es st (fun ds st1 => ds.length ≤ 1000 ∧ Q (.lst ds) st1) X := by simp only [wE]
theorem wE_disp {tp : Bool} {fl : List Bool} {es : List Ex} : wE C (.disp tp fl es) st Q X = wD C fl es st (fun ds st1 => ds.length ≤ sizeLine ∧ Q (if tp = true then .tup ds else .lst ds) st1) X := by simp only [wE]
theorem wE_fst {es : List Ex} : wE C (.fst es) st Q X = wF C es Str.empty st (fun x st1 => Q (.str x) st1) X := by simp only [wE]
theorem wD_nil : wD C [] [] st QA X = QA [] st := by simp only [wD]
theorem wD_star {fl : List Bool} {e : Ex} {es : List Ex} : wD C (true :: fl) (e :: es) st QA X = wE C e st (fun d st1 => ∃ xs, seqD (view st1.h d) = some xs ∧ wD C fl es st1 (fun ds st2 => QA (xs ++ ds) st2) X) X := by simp only [wD, if_true]
theorem wD_cons {fl : List Bool} {e : Ex} {es : List Ex} : wD C (false :: fl) (e :: es) st QA X = wE C e st (fun d st1 => wD C fl es st1 (fun ds st2 => QA (d :: ds) st2) X) X := by simp only [wD, Bool.false_eq_true, if_false]
theorem wF_nil {acc : Str} {QF : Str → Stt → Prop} : wF C [] acc st QF X = QF acc st := by simp only [wF]
theorem wF_cons {acc : Str} {QF : Str → Stt → Prop} {e : Ex} {es : List Ex} : wF C (e :: es) acc st QF X = wE C e st (fun d st1 => ∃ y, fmtD d = some y ∧ (acc ++ y).length ≤ sizeLine ∧ wF C es (acc ++ y) st1 QF X) X := by simp only [wF]
theorem wE_andV {a b : Ex} : wE C (.andV a b) st Q X = wE C a st (fun d st1 => ∃ k, truD (view st1.h d) = some k ∧ if k = true then wE C b st1 Q X else Q d st1) X := by simp only [wE]
theorem wE_orV {a b : Ex} : wE C (.orV a b) st Q X = wE C a st (fun d st1 => ∃ k, truD (view st1.h d) = some k ∧ if k = true then Q d st1 else wE C b st1 Q X) X := by simp only [wE]
theorem wE_notV {a : Ex} : wE C (.notV a) st Q X = wE C a st (fun d st1 => ∃ k, truD (view st1.h d) = some k ∧ Q (.bl (!k)) st1) X := by simp only [wE]
theorem wE_ite {t a b : Ex} : wE C (.ite t a b) st Q X = wT C t st (fun k st1 => if k = true then wE C a st1 Q X else wE C b st1 Q X) X := by simp only [wE]
theorem wE_chn {p q : Op} {a b c : Ex} : wE C (.chn p q a b c) st Q X = wE C a st (fun x st1 => wE C b st1 (fun y st2 => opW p [view st2.h x, view st2.h y] fun r => ∃ k, r = .bl k ∧
      if k = true then wE C c st2 (fun z st3 => opW q [view st3.h y, view st3.h z] fun r => Q r st3) X else Q (.bl false) st2) X) X := by simp only [wE]
theorem wE_call {f : Nat} {es : List Ex} {ar : List (Sum Nat D)} : wE C (.call f es ar) st Q X = wL C es st (fun ds st1 => C f (arr ar ds) st1.h (fun d h => Q d ⟨st1.e, h⟩) (fun c fs h => X c fs ⟨st1.e, h⟩)) X := by simp only [wE]
theorem wE_dct0 : wE C (.dct [] []) st Q X = Q (.dic [] []) st := by simp only [wE]
theorem wE_dct1 {k v : Ex} : wE C (.dct [k] [v]) st Q X = wE C k st (fun a st1 => wE C v st1 (fun b st2 => keyD a = true ∧ Q (.dic [a] [b]) st2) X) X := by simp only [wE]
theorem wE_cel {a : Ex} : wE C (.cel a) st Q X = wE C a st (fun d st1 => match d with
    | .lst ds => Q (.cell st1.h.length) ⟨st1.e, st1.h ++ [.lst ds]⟩
    | .dic ks vs => Q (.cell st1.h.length) ⟨st1.e, st1.h ++ [.dic ks vs]⟩
    | d => scalD d = true ∧ Q d st1) X := by first | (simp only [wE]; done) | (simp only [wE]; rfl)
theorem wE_make {c f : Nat} {fz : Bool} {es : List Ex} {ar : List (Sum Nat D)} : wE C (.make c fz f es ar) st Q X = wL C es st (fun ds st1 => C f (arr ar (.cell st1.h.length :: ds)) (st1.h ++ [.obj c []])
      (fun d h => d = .non ∧ if fz = true then ∃ fs, h = st1.h ++ [.obj c fs] ∧ cellsLts st1.h.length fs = true ∧ Q (.obj c fs) st1 else Q (.cell st1.h.length) ⟨st1.e, h⟩)
      (fun k fs h => if fz = true then (∃ gs, h = st1.h ++ [.obj c gs]) ∧ cellsLts st1.h.length fs = true ∧ X k fs st1 else X k fs ⟨st1.e, h⟩)) X := by simp only [wE]
theorem wE_meth {k : MK} {c f : Nat} {r : Ex} {es : List Ex} {ar : List (Sum Nat D)} : wE C (.meth k c f (r :: es) ar) st Q X = wE C r st (fun d st1 => (isIn k = false → isObj c (view st1.h d) = true) ∧ wL C es st1 (fun ds st2 => (isIn k = true → isObj c (view st2.h (ds.getD 0 .non)) = true) ∧ (isEqM k = true → isObj c (view st2.h d) = true ∧ eqR c (view st2.h (ds.getD 0 .non)) = true) ∧
      C f (arr ar (d :: ds)) st2.h (fun d h => methQ k d fun r => Q r ⟨st2.e, h⟩) (fun c fs h => isProp k = false ∧ X c fs ⟨st2.e, h⟩)) X) X := by simp only [wE]
theorem wE_xfl {i : Nat} {x : Str} : wE C (.xfl i x) st Q X = (match st.e[i]? with
    | some (.exc c fs) => ∃ k d, fldIx c x = some k ∧ fs[k]? = some d ∧ Q d st
    | _ => False) := by first | (simp only [wE]; done) | (simp only [wE]; rfl)
theorem wE_xis {i k : Nat} : wE C (.xis i k) st Q X = (match st.e[i]? with
    | some (.exc c _) => Q (.bl (excSub c k)) st
    | _ => False) := by first | (simp only [wE]; done) | (simp only [wE]; rfl)
theorem wE_pop {i : Nat} {a : Ex} : wE C (.pop i a) st Q X = ((∃ ds, st.e[i]? = some (.own (.lst ds))) ∧ wE C a st (fun d st1 => match d, st1.e[i]? with
    | .int k, some (.own (.lst ds)) => ds.length ≤ sizeLine ∧ ∃ x r, popAt ds k = some (x, r) ∧ Q x ⟨st1.e.set i (.own (.lst r)), st1.h⟩
    | _, _ => False) X) := by first | (simp only [wE]; done) | (simp only [wE]; rfl)
theorem wE_lc {k : ItK} {src : List Ex} {tg : Tg} {ifs : List Ex} {elt : Ex} {own : List Nat} : wE C (.lc k src tg ifs elt own) st Q X = wL C src st (fun ds st1 => ∃ items, itD k (ds.map (view st1.h)) = some items ∧ items.length ≤ sizeLine ∧
      lcLoop (same ds st1.h) (fun x st2 R => ∃ e', tgS tg x st2.e = some e' ∧ wTs C ifs ⟨e', st2.h⟩ (fun b st3 => if b = true then wE C elt st3 (fun y st4 => R [y] ⟨hide st4.e own, st4.h⟩) (fun _ _ _ => False) else R [] ⟨hide st3.e own, st3.h⟩) (fun _ _ _ => False))
        items [] ⟨hide st1.e own, st1.h⟩ fun out st5 => Q (.lst out) ⟨unhide st1.e st5.e own, st5.h⟩) X := by simp only [wE]
theorem wA_nil : wA C [] st QA X = QA [] st := by simp only [wA]
theorem wA_brw {i : Nat} {es : List Ex} : wA C (.brw i :: es) st QA X = ((rdS st.e i).isSome = true ∧ wA C es st (fun ds st2 => ∃ d, rdS st2.e i = some d ∧ QA (d :: ds) st2) X) := by simp only [wA]
def nbrw : Ex → Bool
  | .brw _ => false
  | _ => true
theorem wA_cons {e : Ex} {es : List Ex} (h : nbrw e = true) : wA C (e :: es) st QA X = wE C e st (fun d st1 => wA C es st1 (fun ds st2 => QA (d :: ds) st2) X) X := by
  cases e <;> first | (simp only [wA]; done) | cases h
theorem wA_con {d : D} {es : List Ex} : wA C (.con d :: es) st QA X = wA C es st (fun ds st2 => QA (d :: ds) st2) X := by rw [wA_cons rfl, wE_con]
theorem wA_op {o : Op} {l es : List Ex} : wA C (.op o l :: es) st QA X = wE C (.op o l) st (fun d st1 => wA C es st1 (fun ds st2 => QA (d :: ds) st2) X) X := wA_cons rfl
theorem wA_tup {l es : List Ex} : wA C (.tup l :: es) st QA X = wE C (.tup l) st (fun d st1 => wA C es st1 (fun ds st2 => QA (d :: ds) st2) X) X := wA_cons rfl
theorem wA_disp {tp : Bool} {fl : List Bool} {l es : List Ex} : wA C (.disp tp fl l :: es) st QA X = wE C (.disp tp fl l) st (fun d st1 => wA C es st1 (fun ds st2 => QA (d :: ds) st2) X) X := wA_cons rfl
theorem wA_fst {l es : List Ex} : wA C (.fst l :: es) st QA X = wE C (.fst l) st (fun d st1 => wA C es st1 (fun ds st2 => QA (d :: ds) st2) X) X := wA_cons rfl
theorem wA_meth {k : MK} {c f : Nat} {l es : List Ex} {ar : List (Sum Nat D)} : wA C (.meth k c f l ar :: es) st QA X = wE C (.meth k c f l ar) st (fun d st1 => wA C es st1 (fun ds st2 => QA (d :: ds) st2) X) X := wA_cons rfl
theorem wA_make {c f : Nat} {fz : Bool} {l es : List Ex} {ar : List (Sum Nat D)} : wA C (.make c fz f l ar :: es) st QA X = wE C (.make c fz f l ar) st (fun d st1 => wA C es st1 (fun ds st2 => QA (d :: ds) st2) X) X := wA_cons rfl
theorem wA_lst {l es : List Ex} : wA C (.lst l :: es) st QA X = wE C (.lst l) st (fun d st1 => wA C es st1 (fun ds st2 => QA (d :: ds) st2) X) X := wA_cons rfl
theorem wA_call {f : Nat} {l es : List Ex} {ar : List (Sum Nat D)} : wA C (.call f l ar :: es) st QA X = wE C (.call f l ar) st (fun d st1 => wA C es st1 (fun ds st2 => QA (d :: ds) st2) X) X := wA_cons rfl
theorem wA_andV {a b : Ex} {es : List Ex} : wA C (.andV a b :: es) st QA X = wE C (.andV a b) st (fun d st1 => wA C es st1 (fun ds st2 => QA (d :: ds) st2) X) X := wA_cons rfl
theorem wA_orV {a b : Ex} {es : List Ex} : wA C (.orV a b :: es) st QA X = wE C (.orV a b) st (fun d st1 => wA C es st1 (fun ds st2 => QA (d :: ds) st2) X) X := wA_cons rfl
theorem wA_notV {a : Ex} {es : List Ex} : wA C (.notV a :: es) st QA X = wE C (.notV a) st (fun d st1 => wA C es st1 (fun ds st2 => QA (d :: ds) st2) X) X := wA_cons rfl
theorem wA_ite {t a b : Ex} {es : List Ex} : wA C (.ite t a b :: es) st QA X = wE C (.ite t a b) st (fun d st1 => wA C es st1 (fun ds st2 => QA (d :: ds) st2) X) X := wA_cons rfl
theorem wA_chn {p q : Op} {a b c : Ex} {es : List Ex} : wA C (.chn p q a b c :: es) st QA X = wE C (.chn p q a b c) st (fun d st1 => wA C es st1 (fun ds st2 => QA (d :: ds) st2) X) X := wA_cons rfl
theorem wA_lc {k : ItK} {src : List Ex} {tg : Tg} {ifs : List Ex} {elt : Ex} {own : List Nat} {es : List Ex} : wA C (.lc k src tg ifs elt own :: es) st QA X = wE C (.lc k src tg ifs elt own) st (fun d st1 => wA C es st1 (fun ds st2 => QA (d :: ds) st2) X) X := wA_cons rfl
theorem wL_nil : wL C [] st QA X = QA [] st := by simp only [wL]
theorem wL_cons {e : Ex} {es : List Ex} : wL C (e :: es) st QA X = wE C e st (fun d st1 => wL C es st1 (fun ds st2 => QA (d :: ds) st2) X) X := by simp only [wL]
theorem wT_and {a b : Ex} : wT C (.tAnd a b) st QT X = wT C a st (fun k st1 => if k = true then wT C b st1 QT X else QT false st1) X := by simp only [wT]
theorem wT_or {a b : Ex} : wT C (.tOr a b) st QT X = wT C a st (fun k st1 => if k = true then QT true st1 else wT C b st1 QT X) X := by simp only [wT]
theorem wT_not {a : Ex} : wT C (.tNot a) st QT X = wT C a st (fun k st1 => QT (!k) st1) X := by simp only [wT]
theorem wT_tru {a : Ex} : wT C (.tru a) st QT X = wE C a st (fun d st1 => ∃ k, truD (view st1.h d) = some k ∧ QT k st1) X := by simp only [wT]
theorem wT_tb {a : Ex} : wT C (.tb a) st QT X = wE C a st (fun d st1 => ∃ k, d = .bl k ∧ QT k st1) X := by simp only [wT]
theorem wTs_nil : wTs C [] st QT X = QT true st := by simp only [wTs]
theorem wTs_cons {t : Ex} {ts : List Ex} : wTs C (t :: ts) st QT X = wT C t st (fun k st1 => if k = true then wTs C ts st1 QT X else QT false st1) X := by simp only [wTs]
theorem wS_pass : wS C .pass st E = E.nx st := by simp only [wS]
theorem wS_brk : wS C .brk st E = E.bk st := by simp only [wS]
theorem wS_cnt : wS C .cnt st E = E.ct st := by simp only [wS]
theorem wS_ret {a : Ex} : wS C (.ret a) st E = wE C a st E.rt E.ex := by simp only [wS]
theorem wS_exp {a : Ex} : wS C (.exp a) st E = wE C a st (fun _ st1 => E.nx st1) E.ex := by simp only [wS]
theorem wS_asg {tg : Tg} {a : Ex} : wS C (.asg tg a) st E = wE C a st (fun d st1 => ∃ e', tgS tg d st1.e = some e' ∧ E.nx ⟨e', st1.h⟩) E.ex := by simp only [wS]
theorem wS_asgO {i : Nat} {a : Ex} : wS C (.asgO i a) st E = wE C a st (fun d st1 => E.nx ⟨st1.e.set i (ownS d), st1.h⟩) E.ex := by simp only [wS]
theorem wS_setI {i : Nat} {k a : Ex} : wS C (.setI i k a) st E = wE C a st (fun d st1 => (rdS st1.e i).isSome = true ∧ wE C k st1 (fun z st2 => match z with
    | .int j => ∃ ds m, lstAt st2 i = some ds ∧ ixN ds.length j = some m ∧ E.nx (putAt st2 i (ds.set m d))
    | _ => False) E.ex) E.ex := by first | (simp only [wS]; done) | (simp only [wS]; rfl)
theorem wS_app {i : Nat} {a : Ex} : wS C (.app i a) st E = ((lstAt st i).isSome = true ∧ wE C a st (fun d st1 => ∃ ds, lstAt st1 i = some ds ∧ ds.length < sizeLine ∧ E.nx (putAt st1 i (ds ++ [d]))) E.ex) := by simp only [wS]
theorem wS_ite {t : Ex} {a b : List Sm} : wS C (.ite t a b) st E = wT C t st (fun k st1 => if k = true then wSs C a st1 E else wSs C b st1 E) E.ex := by simp only [wS]
theorem wS_for {k : ItK} {src : List Ex} {tg : Tg} {body : List Sm} : wS C (.for_ k src tg body) st E = wL C src st (fun ds st1 => ∃ items, itD k (ds.map (view st1.h)) = some items ∧ items.length ≤ sizeLine ∧
      forLoop (same ds st1.h) (fun x st2 R => ∃ e', tgS tg x st2.e = some e' ∧ wSs C body ⟨e', st2.h⟩ { nx := R, rt := E.rt, bk := E.nx, ct := R, ex := E.ex }) items st1 E.nx) E.ex := by simp only [wS]
theorem wS_rais {c : Nat} {es : List Ex} : wS C (.rais c es) st E = wL C es st (fun ds st1 => ds.length = (fldsOf c).length ∧ E.ex c ds st1) E.ex := by simp only [wS]
theorem wS_try {body : List Sm} {cs : List (Nat × Nat)} {suites : List (List Sm)} : wS C (.tryA body cs suites) st E = wSs C body st { nx := E.nx, rt := E.rt, bk := E.bk, ct := E.ct, ex := fun c fs st1 => wHs C cs suites c fs st1 E } := by simp only [wS]
theorem wS_setF {i : Nat} {x : Str} {a : Ex} : wS C (.setF i x a) st E = wE C a st (fun d st1 => ∃ l c fs fs', objAt st1 i = some (l, c, fs) ∧ putFl c x d fs = some fs' ∧ E.nx ⟨st1.e, st1.h.set l (.obj c fs')⟩) E.ex := by simp only [wS]
theorem wS_par {is : List Nat} {es : List Ex} : wS C (.par is es) st E = wL C es st (fun ds st1 => ∃ e', setSs is ds st1.e = some e' ∧ E.nx ⟨e', st1.h⟩) E.ex := by simp only [wS]
theorem wHs_cons {k i c : Nat} {cs : List (Nat × Nat)} {suite : List Sm} {suites : List (List Sm)} {fs : List D} : wHs C ((k, i) :: cs) (suite :: suites) c fs st E = if excSub c k = true then wSs C suite ⟨st.e.set i (.exc c fs), st.h⟩
      { nx := fun st2 => noX (st2.e.set i .un) = true ∧ E.nx ⟨st2.e.set i .un, st2.h⟩, rt := fun d st2 => noX (st2.e.set i .un) = true ∧ E.rt d ⟨st2.e.set i .un, st2.h⟩,
        bk := fun st2 => noX (st2.e.set i .un) = true ∧ E.bk ⟨st2.e.set i .un, st2.h⟩, ct := fun st2 => noX (st2.e.set i .un) = true ∧ E.ct ⟨st2.e.set i .un, st2.h⟩, ex := fun _ _ _ => False } else wHs C cs suites c fs st E := by simp only [wHs]
theorem wHs_nil {c : Nat} {fs : List D} : wHs C [] [] c fs st E = E.ex c fs st := by simp only [wHs]
theorem wSs_nil : wSs C [] st E = E.nx st := by simp only [wSs]
theorem wSs_cons {s : Sm} {ss : List Sm} : wSs C (s :: ss) st E = wS C s st { nx := fun st1 => wSs C ss st1 E, rt := E.rt, bk := E.bk, ct := E.ct, ex := E.ex } := by simp only [wSs]
end
/-! ### values -/
section
variable {h : List CO}
@[simp] theorem view_non : view h .non = .non := rfl
@[simp] theorem view_bl {b : Bool} : view h (.bl b) = .bl b := rfl
@[simp] theorem view_int {i : Int} : view h (.int i) = .int i := rfl
@[simp] theorem view_str {x : Str} : view h (.str x) = .str x := rfl
@[simp] theorem view_tup {ds : List D} : view h (.tup ds) = .tup ds := rfl
@[simp] theorem view_lst {ds : List D} : view h (.lst ds) = .lst ds := rfl
@[simp] theorem view_dic {ks vs : List D} : view h (.dic ks vs) = .dic ks vs := rfl
@[simp] theorem view_scr {ds : List D} : view h (.scr ds) = .scr ds := rfl
theorem view_cell {l : Nat} {ds : List D} (e : h[l]? = some (.lst ds)) : view h (.cell l) = .lst ds := by
  show (match h[l]? with | some (.lst ds) => D.lst ds | some (.dic ks vs) => .dic ks vs | some (.obj c ds) => .obj c ds | _ => .cell l) = _
  rw [e]
theorem view_ok {d : D} (e : tyOk d = true) : view h d = d := by cases d <;> first | rfl | cases e
@[simp] theorem truD_bl {b : Bool} : truD (.bl b) = some b := rfl
@[simp] theorem truD_int {i : Int} : truD (.int i) = some (i != 0) := rfl
@[simp] theorem truD_non : truD .non = some false := rfl
@[simp] theorem truD_lst {ds : List D} : truD (.lst ds) = some (!ds.isEmpty) := rfl
@[simp] theorem truD_tup {ds : List D} : truD (.tup ds) = some (!ds.isEmpty) := rfl
variable {Q : D → Prop} {i j : Int} {a b : D} {ds : List D}
@[simp] theorem reprD_bl {k : Bool} : reprD (.bl k) = some (if k then ("True" : Str) else "False") := by cases k <;> rfl
@[simp] theorem seqD_lst : seqD (.lst ds) = some ds := rfl
@[simp] theorem seqD_tup : seqD (.tup ds) = some ds := rfl
@[simp] theorem seqD_scr : seqD (.scr ds) = some ds := rfl
@[simp] theorem tgS_nm {e : List Sl} {k : Nat} : tgS (.nm k) a e = some (e.set k (.shr a)) := by simp only [tgS]
end

/-! ### calls -/
theorem CC_of {P : Nat → Option Fn} {n f : Nat} {fn : Fn} {ds : List D} {h : List CO} {Q : D → List CO → Prop} {X : Nat → List D → List CO → Prop} (hf : P f = some fn) (hn : 0 < n) (hl : ds.length = fn.np)
    (hw : wSs (CC P (n - 1)) fn.body ⟨startE fn ds, h⟩ { nx := fun st => Q .non st.h, rt := fun d st => Q d st.h, bk := fun _ => False, ct := fun _ => False, ex := fun c fs st => X c fs st.h }) : CC P n f ds h Q X := by
  cases n with
  | zero => cases hn
  | succ n =>
    show (match P f with | some fn => _ | none => False)
    rw [hf]
    exact ⟨hl, hw⟩
/-! ### loops; the turn is monotone -/
def MonF (turn : D → Stt → (Stt → Prop) → Prop) : Prop := ∀ x st (R R' : Stt → Prop), (∀ st, R st → R' st) → turn x st R → turn x st R'
theorem for_inv {chk : Stt → Prop} {turn : D → Stt → (Stt → Prop) → Prop} (I : Nat → Stt → Prop) {Q : Stt → Prop} (hm : MonF turn) (hc : ∀ i st, I i st → chk st) : ∀ (items : List D) (k : Nat) (st : Stt), I k st → (∀ i x st, items[i]? = some x → I (k + i) st → turn x st (I (k + i + 1))) → (∀ st, I (k + items.length) st → Q st) → forLoop chk turn items st Q
  | [], k, st, h0, _, he => ⟨hc k st h0, he st h0⟩
  | x :: xs, k, st, h0, hs, he => by
    show chk st ∧ turn x st fun st1 => forLoop chk turn xs st1 Q
    refine ⟨hc k st h0, hm x st (I (k + 1)) _ (fun st1 h1 => for_inv I hm hc xs (k + 1) st1 h1 (fun i y st2 e h2 => ?_) fun st2 h2 => he st2 ?_) (hs 0 x st rfl h0)⟩
    · have e1 : k + 1 + i = k + (i + 1) := by omega
      rw [e1] at h2 ⊢
      exact hs (i + 1) y st2 (by simpa using e) h2
    · rw [List.length_cons]
      have e1 : k + 1 + xs.length = k + (xs.length + 1) := by omega
      rw [← e1]
      exact h2
def MonL (turn : D → Stt → (List D → Stt → Prop) → Prop) : Prop := ∀ x st (R R' : List D → Stt → Prop), (∀ ds st, R ds st → R' ds st) → turn x st R → turn x st R'
theorem lc_inv {chk : Stt → Prop} {turn : D → Stt → (List D → Stt → Prop) → Prop} (I : Nat → List D → Stt → Prop) {Q : List D → Stt → Prop} (hm : MonL turn) (hc : ∀ i acc st, I i acc st → chk st) : ∀ (items : List D) (k : Nat) (acc : List D) (st : Stt), I k acc st → (∀ i x acc st, items[i]? = some x → I (k + i) acc st → turn x st (fun r st1 => I (k + i + 1) (acc ++ r) st1)) → (∀ acc st, I (k + items.length) acc st → Q acc st) → lcLoop chk turn items acc st Q
  | [], k, acc, st, h0, _, he => ⟨hc k acc st h0, he acc st h0⟩
  | x :: xs, k, acc, st, h0, hs, he => by
    show chk st ∧ turn x st fun r st1 => lcLoop chk turn xs (acc ++ r) st1 Q
    refine ⟨hc k acc st h0, hm x st (fun r st1 => I (k + 1) (acc ++ r) st1) _ (fun r st1 h1 => lc_inv I hm hc xs (k + 1) (acc ++ r) st1 h1 (fun i y acc2 st2 e h2 => ?_) fun acc2 st2 h2 => he acc2 st2 ?_) (hs 0 x acc st rfl h0)⟩
    · have e1 : k + 1 + i = k + (i + 1) := by omega
      rw [e1] at h2 ⊢
      exact hs (i + 1) y acc2 st2 (by simpa using e) h2
    · rw [List.length_cons]
      have e1 : k + 1 + xs.length = k + (xs.length + 1) := by omega
      rw [← e1]
      exact h2
/-! ### monotone -/
def MonC (C : Calls) : Prop := ∀ f ds h (Q Q' : D → List CO → Prop) (X X' : Nat → List D → List CO → Prop), (∀ d h, Q d h → Q' d h) → (∀ c fs h, X c fs h → X' c fs h) → C f ds h Q X → C f ds h Q' X'
theorem int1_mono {ds : List D} {k k' : Int → Prop} (i : ∀ a, k a → k' a) (h : int1 ds k) : int1 ds k' := by
  unfold int1 at h ⊢; split at h
  · exact i _ h
  · exact h
theorem int2_mono {ds : List D} {k k' : Int → Int → Prop} (i : ∀ a b, k a b → k' a b) (h : int2 ds k) : int2 ds k' := by
  unfold int2 at h ⊢; split at h
  · exact i _ _ h
  · exact h
theorem any1_mono {ds : List D} {k k' : D → Prop} (i : ∀ a, k a → k' a) (h : any1 ds k) : any1 ds k' := by
  unfold any1 at h ⊢; split at h
  · exact i _ h
  · exact h
theorem any2_mono {ds : List D} {k k' : D → D → Prop} (i : ∀ a b, k a b → k' a b) (h : any2 ds k) : any2 ds k' := by
  unfold any2 at h ⊢; split at h
  · exact i _ _ h
  · exact h
theorem mulW_mono {ds : List D} {Q Q' : D → Prop} (i : ∀ d, Q d → Q' d) (h : mulW ds Q) : mulW ds Q' := by
  unfold mulW at h ⊢
  split at h <;> first | exact ⟨h.1, i _ h.2⟩ | exact h.elim
theorem addW_mono {ds : List D} {Q Q' : D → Prop} (i : ∀ d, Q d → Q' d) (h : addW ds Q) : addW ds Q' := by
  unfold addW at h ⊢
  split at h <;> first | exact i _ h | exact ⟨h.1, i _ h.2⟩ | exact h.elim
theorem inW_mono {neg : Bool} {ds : List D} {Q Q' : D → Prop} (i : ∀ d, Q d → Q' d) (h : inW neg ds Q) : inW neg ds Q' := by
  unfold inW at h ⊢
  split at h <;> first | exact i _ h | exact ⟨h.1, i _ h.2⟩ | exact h.elim
theorem itemW_mono {ds : List D} {Q Q' : D → Prop} (i : ∀ d, Q d → Q' d) (h : itemW ds Q) : itemW ds Q' := by
  unfold itemW at h ⊢
  split at h
  · obtain ⟨c, a, b, q⟩ := h
    exact ⟨c, a, b, i _ q⟩
  · obtain ⟨es, d, a, b, c⟩ := h
    exact ⟨es, d, a, b, i _ c⟩
  · exact h.elim
theorem eqLW_mono {neg : Bool} {ds : List D} {Q Q' : D → Prop} (i : ∀ d, Q d → Q' d) (h : eqLW neg ds Q) : eqLW neg ds Q' := by
  unfold eqLW at h ⊢
  split at h
  · obtain ⟨k, a, b⟩ := h
    exact ⟨k, a, i _ b⟩
  · exact h.elim
theorem inMW_mono {neg : Bool} {ds : List D} {Q Q' : D → Prop} (i : ∀ d, Q d → Q' d) (h : inMW neg ds Q) : inMW neg ds Q' := by
  unfold inMW at h ⊢
  split at h
  · exact ⟨h.1, i _ h.2⟩
  · exact h.elim
theorem cutW_mono {a : D} {lo hi : Option Int} {Q Q' : D → Prop} (i : ∀ d, Q d → Q' d) (h : cutW a lo hi Q) : cutW a lo hi Q' := by
  unfold cutW at h ⊢
  split at h <;> first | exact i _ h | exact ⟨h.1, i _ h.2⟩ | exact h.elim
theorem slW_mono {lo hi : Bool} {ds : List D} {Q Q' : D → Prop} (i : ∀ d, Q d → Q' d) (h : slW lo hi ds Q) : slW lo hi ds Q' := by
  unfold slW at h ⊢
  split at h <;> first | exact cutW_mono i h | exact h.elim
theorem str2_mono {ds : List D} {k k' : Str → Str → Prop} (i : ∀ a b, k a b → k' a b) (h : str2 ds k) : str2 ds k' := by
  unfold str2 at h ⊢; split at h
  · exact i _ _ h
  · exact h
theorem isBW_mono {b neg : Bool} {a : D} {Q Q' : D → Prop} (i : ∀ d, Q d → Q' d) (h : isBW b neg a Q) : isBW b neg a Q' := by
  unfold isBW at h ⊢
  split at h <;> first | exact i _ h | exact h.elim
theorem opW_mono {o : Op} {ds : List D} {Q Q' : D → Prop} (i : ∀ d, Q d → Q' d) (h : opW o ds Q) : opW o ds Q' := by
  cases o with
  | add => exact addW_mono i h
  | sub => exact int2_mono (fun _ _ => i _) h
  | mul => exact mulW_mono i h
  | fdiv => exact int2_mono (fun _ _ z => ⟨z.1, i _ z.2⟩) h
  | mod => exact int2_mono (fun _ _ z => ⟨z.1, i _ z.2⟩) h
  | pow => exact int2_mono (fun _ _ z => ⟨z.1, i _ z.2⟩) h
  | fdivN => exact int2_mono (fun _ _ z => ⟨z.1, i _ z.2⟩) h
  | modN => exact int2_mono (fun _ _ z => ⟨z.1, i _ z.2⟩) h
  | neg => exact int1_mono (fun _ => i _) h
  | eq => exact any2_mono (fun _ _ z => ⟨z.1, i _ z.2⟩) h
  | ne => exact any2_mono (fun _ _ z => ⟨z.1, i _ z.2⟩) h
  | eqL => exact eqLW_mono i h
  | neL => exact eqLW_mono i h
  | inM => exact inMW_mono i h
  | ninM => exact inMW_mono i h
  | lt => exact int2_mono (fun _ _ => i _) h
  | le => exact int2_mono (fun _ _ => i _) h
  | gt => exact int2_mono (fun _ _ => i _) h
  | ge => exact int2_mono (fun _ _ => i _) h
  | isN => exact any1_mono (fun _ => i _) h
  | isNotN => exact any1_mono (fun _ => i _) h
  | in_ => exact inW_mono i h
  | notIn => exact inW_mono i h
  | len => refine any1_mono (fun a z => ?_) h
           unfold lenW at z ⊢
           split at z <;> first | exact i _ z | exact ⟨z.1, i _ z.2⟩ | exact z.elim
  | abs => exact int1_mono (fun _ => i _) h
  | max2 => exact int2_mono (fun _ _ => i _) h
  | min2 => exact int2_mono (fun _ _ => i _) h
  | toInt => refine any1_mono (fun a z => ?_) h
             unfold toIntW at z ⊢
             split at z <;> first | exact i _ z | exact z.elim
  | toStr => exact int1_mono (fun _ z => ⟨z.1, i _ z.2⟩) h
  | repr => exact any1_mono (fun _ ⟨x, e, z⟩ => ⟨x, e, i _ z⟩) h
  | toList => refine any1_mono (fun a z => ?_) h
              unfold toListW at z ⊢
              split at z
              · exact ⟨z.1, i _ z.2⟩
              · obtain ⟨x, e, z⟩ := z
                exact ⟨x, e, i _ z⟩
  | toTuple => exact any1_mono (fun _ ⟨x, e, z⟩ => ⟨x, e, i _ z⟩) h
  | item => exact itemW_mono i h
  | isi ts t => exact any1_mono (fun _ z => ⟨z.1, i _ z.2⟩) h
  | sl lo hi => exact slW_mono i h
  | rev => refine any1_mono (fun a z => ?_) h
           unfold revW at z ⊢
           split at z <;> first | exact i _ z | exact z.elim
  | join => have h' : joinW ds Q := h
            show joinW ds Q'
            unfold joinW at h' ⊢
            split at h'
            · obtain ⟨es, ys, a, b, c, q⟩ := h'
              exact ⟨es, ys, a, b, c, i _ q⟩
            · exact h'.elim
  | split => exact str2_mono (fun _ _ z => ⟨z.1, i _ z.2⟩) h
  | rmpre => exact str2_mono (fun _ _ z => ⟨z.1, i _ z.2⟩) h
  | starts => exact str2_mono (fun _ _ => i _) h
  | index => exact str2_mono (fun _ _ ⟨k, e, z⟩ => ⟨k, e, i _ z⟩) h
  | find => exact str2_mono (fun _ _ => i _) h
  | fld x => refine any1_mono (fun a z => ?_) h
             unfold fldW at z ⊢
             split at z
             · obtain ⟨k, v, a, b, q⟩ := z
               exact ⟨k, v, a, b, i _ q⟩
             · exact z.elim
  | all => exact any1_mono (fun _ ⟨es, bs, a, b, q⟩ => ⟨es, bs, a, b, i _ q⟩) h
  | any => exact any1_mono (fun _ ⟨es, bs, a, b, q⟩ => ⟨es, bs, a, b, i _ q⟩) h
  | sum => exact any1_mono (fun _ ⟨es, bs, a, b, q⟩ => ⟨es, bs, a, b, i _ q⟩) h
  | maxL => exact any1_mono (fun _ ⟨es, bs, a, b, c, q⟩ => ⟨es, bs, a, b, c, i _ q⟩) h
  | minL => exact any1_mono (fun _ ⟨es, bs, a, b, c, q⟩ => ⟨es, bs, a, b, c, i _ q⟩) h
  | isT => exact any1_mono (fun a z => isBW_mono i z) h
  | isF => exact any1_mono (fun a z => isBW_mono i z) h
  | isNT => exact any1_mono (fun a z => isBW_mono i z) h
  | isNF => exact any1_mono (fun a z => isBW_mono i z) h
  | rng1 => exact int1_mono (fun _ z => ⟨z.1, i _ z.2⟩) h
  | rng2 => exact int2_mono (fun _ _ z => ⟨z.1, i _ z.2⟩) h
  | sorted => exact any1_mono (fun _ ⟨es, bs, a, b, q⟩ => ⟨es, bs, a, b, i _ q⟩) h
  | diff tp => exact any1_mono (fun _ ⟨es, out, a, b, c, q⟩ => ⟨es, out, a, b, c, i _ q⟩) h
theorem lcLoop_mono {chk : Stt → Prop} {turn : D → Stt → (List D → Stt → Prop) → Prop} (hm : MonL turn) : ∀ {items acc : List D} {st : Stt} {Q Q' : List D → Stt → Prop}, (∀ ds st, Q ds st → Q' ds st) → lcLoop chk turn items acc st Q → lcLoop chk turn items acc st Q'
  | [], _, _, _, _, i, h => ⟨h.1, i _ _ h.2⟩
  | x :: xs, acc, st, Q, Q', i, h => ⟨h.1, hm x st _ _ (fun r st1 z => lcLoop_mono hm i z) h.2⟩
theorem forLoop_mono {chk : Stt → Prop} {turn : D → Stt → (Stt → Prop) → Prop} (hm : MonF turn) : ∀ {items : List D} {st : Stt} {Q Q' : Stt → Prop}, (∀ st, Q st → Q' st) → forLoop chk turn items st Q → forLoop chk turn items st Q'
  | [], _, _, _, i, h => ⟨h.1, i _ h.2⟩
  | x :: xs, st, Q, Q', i, h => ⟨h.1, hm x st _ _ (fun st1 z => forLoop_mono hm i z) h.2⟩
end Mp
namespace Mp
open PySem PySem.Spec L2
mutual
theorem wE_mono {C : Calls} (hC : MonC C) : ∀ (e : Ex) {st : Stt} {Q Q' : PD} {X X' : PX}, (∀ d st, Q d st → Q' d st) → (∀ c fs st, X c fs st → X' c fs st) → wE C e st Q X → wE C e st Q' X'
  | .con d, _, _, _, _, _, i, _, h => by rw [wE_con] at h ⊢; exact i _ _ h
  | .var k, _, _, _, _, _, i, _, h => by
    rw [wE_var] at h ⊢
    split at h
    · exact i _ _ h
    · exact i _ _ h
    · exact h.elim
  | .brw k, _, _, _, _, _, i, _, h => by simp only [wE] at h
  | .mov k, _, _, _, _, _, i, _, h => by
    rw [wE_mov] at h ⊢
    split at h
    · exact i _ _ h
    · exact ⟨h.1, i _ _ h.2⟩
    · exact h.elim
  | .op o es, _, _, _, _, _, i, ix, h => by
    rw [wE_op] at h ⊢
    exact wA_mono hC es (fun ds st z => opW_mono (fun d => i d st) z) ix h
  | .tup es, _, _, _, _, _, i, ix, h => by
    rw [wE_tup] at h ⊢
    exact wL_mono hC es (fun ds st z => ⟨z.1, i _ _ z.2⟩) ix h
  | .lst es, _, _, _, _, _, i, ix, h => by
    rw [wE_lst] at h ⊢
    exact wL_mono hC es (fun ds st z => ⟨z.1, i _ _ z.2⟩) ix h
  | .disp tp fl es, _, _, _, _, _, i, ix, h => by
    rw [wE_disp] at h ⊢
    exact wD_mono hC fl es (fun ds st z => ⟨z.1, i _ _ z.2⟩) ix h
  | .fst es, _, _, _, _, _, i, ix, h => by
    rw [wE_fst] at h ⊢
    exact wF_mono hC es (fun x st z => i _ _ z) ix h
  | .andV a b, _, _, _, _, _, i, ix, h => by
    rw [wE_andV] at h ⊢
    refine wE_mono hC a (fun d st ⟨k, e, z⟩ => ⟨k, e, ?_⟩) ix h
    split at z
    · rename_i hk; rw [if_pos hk]; exact wE_mono hC b i ix z
    · rename_i hk; rw [if_neg hk]; exact i _ _ z
  | .orV a b, _, _, _, _, _, i, ix, h => by
    rw [wE_orV] at h ⊢
    refine wE_mono hC a (fun d st ⟨k, e, z⟩ => ⟨k, e, ?_⟩) ix h
    split at z
    · rename_i hk; rw [if_pos hk]; exact i _ _ z
    · rename_i hk; rw [if_neg hk]; exact wE_mono hC b i ix z
  | .notV a, _, _, _, _, _, i, ix, h => by
    rw [wE_notV] at h ⊢
    exact wE_mono hC a (fun d st ⟨k, e, z⟩ => ⟨k, e, i _ _ z⟩) ix h
  | .tAnd a b, _, _, _, _, _, i, _, h => by simp only [wE] at h
  | .tOr a b, _, _, _, _, _, i, _, h => by simp only [wE] at h
  | .tNot a, _, _, _, _, _, i, _, h => by simp only [wE] at h
  | .tru a, _, _, _, _, _, i, _, h => by simp only [wE] at h
  | .tb a, _, _, _, _, _, i, _, h => by simp only [wE] at h
  | .ite t a b, _, _, _, _, _, i, ix, h => by
    rw [wE_ite] at h ⊢
    refine wT_mono hC t (fun k st z => ?_) ix h
    split at z
    · rename_i hk; rw [if_pos hk]; exact wE_mono hC a i ix z
    · rename_i hk; rw [if_neg hk]; exact wE_mono hC b i ix z
  | .chn p q a b c, _, _, _, _, _, i, ix, h => by
    rw [wE_chn] at h ⊢
    refine wE_mono hC a (fun x st1 z => wE_mono hC b (fun y st2 z => opW_mono (fun r ⟨k, e, z⟩ => ⟨k, e, ?_⟩) z) ix z) ix h
    split at z
    · rename_i hk; rw [if_pos hk]; exact wE_mono hC c (fun w st3 z => opW_mono (fun r => i r st3) z) ix z
    · rename_i hk; rw [if_neg hk]; exact i _ _ z
  | .call f es ar, _, _, _, _, _, i, ix, h => by
    rw [wE_call] at h ⊢
    exact wL_mono hC es (fun ds st z => hC _ _ _ _ _ _ _ (fun d h => i d _) (fun c fs h => ix c fs _) z) ix h
  | .dct ks vs, st, Q, Q', X, X', i, ix, h => by
    match ks, vs, h with
    | [], [], h => rw [wE_dct0] at h ⊢; exact i _ _ h
    | [k], [v], h =>
      rw [wE_dct1] at h ⊢
      exact wE_mono hC k (fun a st1 z => wE_mono hC v (fun b st2 z => ⟨z.1, i _ _ z.2⟩) ix z) ix h
    | [], _ :: _, h => simp only [wE] at h
    | _ :: _, [], h => simp only [wE] at h
    | [_], _ :: _ :: _, h => simp only [wE] at h
    | _ :: _ :: _, _ :: _, h => simp only [wE] at h
  | .cel a, _, _, _, _, _, i, ix, h => by
    rw [wE_cel] at h ⊢
    refine wE_mono hC a (fun d st z => ?_) ix h
    split at z
    · exact i _ _ z
    · exact i _ _ z
    · exact ⟨z.1, i _ _ z.2⟩
  | .make c fz f es ar, _, _, _, _, _, i, ix, h => by
    rw [wE_make] at h ⊢
    cases fz with
    | true => exact wL_mono hC es (fun ds st z => hC _ _ _ _ _ _ _ (fun d h ⟨z1, fs, a, b, q⟩ => ⟨z1, fs, a, b, i _ _ q⟩) (fun c fs h ⟨z1, z2, z3⟩ => ⟨z1, z2, ix _ _ _ z3⟩) z) ix h
    | false => exact wL_mono hC es (fun ds st z => hC _ _ _ _ _ _ _ (fun d h ⟨z1, q⟩ => ⟨z1, i _ _ q⟩) (fun c fs h z => ix _ _ _ z) z) ix h
  | .meth k c f es ar, _, _, _, _, _, i, ix, h => by
    match es, h with
    | [], h => simp only [wE] at h
    | r :: es, h =>
      rw [wE_meth] at h ⊢
      refine wE_mono hC r (fun d st1 ⟨z1, z2⟩ => ⟨z1, wL_mono hC es (fun ds st2 ⟨z3, z5, z4⟩ => ⟨z3, z5, hC _ _ _ _ _ _ _ (fun d h z => ?_) (fun c fs h z => ⟨z.1, ix _ _ _ z.2⟩) z4⟩) ix z2⟩) ix h
      cases k <;> first | exact i _ _ z | (obtain ⟨n, a, b, q⟩ := z; exact ⟨n, a, b, i _ _ q⟩) | (obtain ⟨n, a, q⟩ := z; exact ⟨n, a, i _ _ q⟩)
  | .xfl k x, _, _, _, _, _, i, ix, h => by
    rw [wE_xfl] at h ⊢
    split at h
    · obtain ⟨k, d, a, b, q⟩ := h; exact ⟨k, d, a, b, i _ _ q⟩
    · exact h.elim
  | .xis k x, _, _, _, _, _, i, ix, h => by
    rw [wE_xis] at h ⊢
    split at h
    · exact i _ _ h
    · exact h.elim
  | .pop k a, _, _, _, _, _, i, ix, h => by
    rw [wE_pop] at h ⊢
    refine ⟨h.1, wE_mono hC a (fun d st z => ?_) ix h.2⟩
    split at z
    · rename_i e3
      obtain ⟨z1, x, r, z2, z3⟩ := z
      exact ⟨z1, x, r, z2, i _ _ z3⟩
    · exact z.elim
  | .lc k src tg ifs elt own, _, _, _, _, _, i, ix, h => by
    rw [wE_lc] at h ⊢
    refine wL_mono hC src (fun ds st ⟨items, e, l, z⟩ => ⟨items, e, l, lcLoop_mono ?_ (fun out st => i _ _) z⟩) ix h
    intro x st2 R R' ir ⟨e', he, z⟩
    refine ⟨e', he, wTs_mono hC ifs (fun b st3 z => ?_) (fun _ _ _ z => z) z⟩
    split at z
    · rename_i hk; rw [if_pos hk]; exact wE_mono hC elt (fun y st4 => ir _ _) (fun _ _ _ z => z) z
    · rename_i hk; rw [if_neg hk]; exact ir _ _ z
theorem wA_mono {C : Calls} (hC : MonC C) : ∀ (es : List Ex) {st : Stt} {Q Q' : List D → Stt → Prop} {X X' : PX}, (∀ ds st, Q ds st → Q' ds st) → (∀ c fs st, X c fs st → X' c fs st) → wA C es st Q X → wA C es st Q' X'
  | [], _, _, _, _, _, i, _, h => by rw [wA_nil] at h ⊢; exact i _ _ h
  | e :: es, st, Q, Q', X, X', i, ix, h => by
    by_cases hb : nbrw e = true
    · rw [wA_cons hb] at h ⊢
      exact wE_mono hC e (fun d st1 z => wA_mono hC es (fun ds st2 => i _ _) ix z) ix h
    · cases e with
      | brw k =>
        rw [wA_brw] at h ⊢
        exact ⟨h.1, wA_mono hC es (fun ds st2 ⟨d, e, z⟩ => ⟨d, e, i _ _ z⟩) ix h.2⟩
      | _ => exact absurd rfl hb
theorem wD_mono {C : Calls} (hC : MonC C) : ∀ (fl : List Bool) (es : List Ex) {st : Stt} {Q Q' : List D → Stt → Prop} {X X' : PX}, (∀ ds st, Q ds st → Q' ds st) → (∀ c fs st, X c fs st → X' c fs st) → wD C fl es st Q X → wD C fl es st Q' X'
  | [], [], _, _, _, _, _, i, ix, h => by rw [wD_nil] at h ⊢; exact i _ _ h
  | true :: fl, e :: es, _, _, _, _, _, i, ix, h => by
    rw [wD_star] at h ⊢
    exact wE_mono hC e (fun d st ⟨xs, e1, z⟩ => ⟨xs, e1, wD_mono hC fl es (fun ds st z => i _ _ z) ix z⟩) ix h
  | false :: fl, e :: es, _, _, _, _, _, i, ix, h => by
    rw [wD_cons] at h ⊢
    exact wE_mono hC e (fun d st z => wD_mono hC fl es (fun ds st z => i _ _ z) ix z) ix h
  | [], _ :: _, _, _, _, _, _, i, ix, h => by simp only [wD] at h
  | _ :: _, [], _, _, _, _, _, i, ix, h => by simp only [wD] at h
theorem wF_mono {C : Calls} (hC : MonC C) : ∀ (es : List Ex) {acc : Str} {st : Stt} {Q Q' : Str → Stt → Prop} {X X' : PX}, (∀ x st, Q x st → Q' x st) → (∀ c fs st, X c fs st → X' c fs st) → wF C es acc st Q X → wF C es acc st Q' X'
  | [], _, _, _, _, _, _, i, ix, h => by rw [wF_nil] at h ⊢; exact i _ _ h
  | e :: es, _, _, _, _, _, _, i, ix, h => by
    rw [wF_cons] at h ⊢
    exact wE_mono hC e (fun d st ⟨y, e1, e2, z⟩ => ⟨y, e1, e2, wF_mono hC es i ix z⟩) ix h
theorem wL_mono {C : Calls} (hC : MonC C) : ∀ (es : List Ex) {st : Stt} {Q Q' : List D → Stt → Prop} {X X' : PX}, (∀ ds st, Q ds st → Q' ds st) → (∀ c fs st, X c fs st → X' c fs st) → wL C es st Q X → wL C es st Q' X'
  | [], _, _, _, _, _, i, _, h => by rw [wL_nil] at h ⊢; exact i _ _ h
  | e :: es, st, Q, Q', X, X', i, ix, h => by
    rw [wL_cons] at h ⊢
    exact wE_mono hC e (fun d st1 z => wL_mono hC es (fun ds st2 => i _ _) ix z) ix h
theorem wT_mono {C : Calls} (hC : MonC C) : ∀ (e : Ex) {st : Stt} {Q Q' : Bool → Stt → Prop} {X X' : PX}, (∀ b st, Q b st → Q' b st) → (∀ c fs st, X c fs st → X' c fs st) → wT C e st Q X → wT C e st Q' X'
  | .tAnd a b, _, _, _, _, _, i, ix, h => by
    rw [wT_and] at h ⊢
    refine wT_mono hC a (fun k st z => ?_) ix h
    split at z
    · rename_i hk; rw [if_pos hk]; exact wT_mono hC b i ix z
    · rename_i hk; rw [if_neg hk]; exact i _ _ z
  | .tOr a b, _, _, _, _, _, i, ix, h => by
    rw [wT_or] at h ⊢
    refine wT_mono hC a (fun k st z => ?_) ix h
    split at z
    · rename_i hk; rw [if_pos hk]; exact i _ _ z
    · rename_i hk; rw [if_neg hk]; exact wT_mono hC b i ix z
  | .tNot a, _, _, _, _, _, i, ix, h => by
    rw [wT_not] at h ⊢
    exact wT_mono hC a (fun k st => i _ _) ix h
  | .tru a, _, _, _, _, _, i, ix, h => by
    rw [wT_tru] at h ⊢
    exact wE_mono hC a (fun d st ⟨k, e, z⟩ => ⟨k, e, i _ _ z⟩) ix h
  | .tb a, _, _, _, _, _, i, ix, h => by
    rw [wT_tb] at h ⊢
    exact wE_mono hC a (fun d st ⟨k, e, z⟩ => ⟨k, e, i _ _ z⟩) ix h
  | .con _, _, _, _, _, _, _, _, h => by simp only [wT] at h
  | .var _, _, _, _, _, _, _, _, h => by simp only [wT] at h
  | .brw _, _, _, _, _, _, _, _, h => by simp only [wT] at h
  | .mov _, _, _, _, _, _, _, _, h => by simp only [wT] at h
  | .op _ _, _, _, _, _, _, _, _, h => by simp only [wT] at h
  | .tup _, _, _, _, _, _, _, _, h => by simp only [wT] at h
  | .lst _, _, _, _, _, _, _, _, h => by simp only [wT] at h
  | .dct _ _, _, _, _, _, _, _, _, h => by simp only [wT] at h
  | .andV _ _, _, _, _, _, _, _, _, h => by simp only [wT] at h
  | .orV _ _, _, _, _, _, _, _, _, h => by simp only [wT] at h
  | .notV _, _, _, _, _, _, _, _, h => by simp only [wT] at h
  | .ite _ _ _, _, _, _, _, _, _, _, h => by simp only [wT] at h
  | .chn _ _ _ _ _, _, _, _, _, _, _, _, h => by simp only [wT] at h
  | .call _ _ _, _, _, _, _, _, _, _, h => by simp only [wT] at h
  | .cel _, _, _, _, _, _, _, _, h => by simp only [wT] at h
  | .pop _ _, _, _, _, _, _, _, _, h => by simp only [wT] at h
  | .lc _ _ _ _ _ _, _, _, _, _, _, _, _, h => by simp only [wT] at h
  | .make _ _ _ _ _, _, _, _, _, _, _, _, h => by simp only [wT] at h
  | .meth _ _ _ _ _, _, _, _, _, _, _, _, h => by simp only [wT] at h
  | .xfl _ _, _, _, _, _, _, _, _, h => by simp only [wT] at h
  | .xis _ _, _, _, _, _, _, _, _, h => by simp only [wT] at h
theorem wTs_mono {C : Calls} (hC : MonC C) : ∀ (es : List Ex) {st : Stt} {Q Q' : Bool → Stt → Prop} {X X' : PX}, (∀ b st, Q b st → Q' b st) → (∀ c fs st, X c fs st → X' c fs st) → wTs C es st Q X → wTs C es st Q' X'
  | [], _, _, _, _, _, i, _, h => by rw [wTs_nil] at h ⊢; exact i _ _ h
  | e :: es, st, Q, Q', X, X', i, ix, h => by
    rw [wTs_cons] at h ⊢
    refine wT_mono hC e (fun k st z => ?_) ix h
    split at z
    · rename_i hk; rw [if_pos hk]; exact wTs_mono hC es i ix z
    · rename_i hk; rw [if_neg hk]; exact i _ _ z
end
structure EndLe (E E' : EndD) : Prop where
  nx : ∀ st, E.nx st → E'.nx st
  rt : ∀ d st, E.rt d st → E'.rt d st
  bk : ∀ st, E.bk st → E'.bk st
  ct : ∀ st, E.ct st → E'.ct st
  ex : ∀ c fs st, E.ex c fs st → E'.ex c fs st
mutual
theorem wS_mono {C : Calls} (hC : MonC C) : ∀ (s : Sm) {st : Stt} {E E' : EndD}, wS C s st E → EndLe E E' → wS C s st E'
  | .pass, _, _, _, h, l => by rw [wS_pass] at h ⊢; exact l.nx _ h
  | .brk, _, _, _, h, l => by rw [wS_brk] at h ⊢; exact l.bk _ h
  | .cnt, _, _, _, h, l => by rw [wS_cnt] at h ⊢; exact l.ct _ h
  | .ret a, _, _, _, h, l => by rw [wS_ret] at h ⊢; exact wE_mono hC a l.rt l.ex h
  | .exp a, _, _, _, h, l => by rw [wS_exp] at h ⊢; exact wE_mono hC a (fun _ => l.nx) l.ex h
  | .asg tg a, _, _, _, h, l => by
    rw [wS_asg] at h ⊢
    exact wE_mono hC a (fun d st ⟨e, he, z⟩ => ⟨e, he, l.nx _ z⟩) l.ex h
  | .asgO i a, _, _, _, h, l => by
    rw [wS_asgO] at h ⊢
    exact wE_mono hC a (fun d st => l.nx _) l.ex h
  | .setI i k a, _, _, _, h, l => by
    rw [wS_setI] at h ⊢
    refine wE_mono hC a (fun d st z => ⟨z.1, wE_mono hC k (fun j st2 z => ?_) l.ex z.2⟩) l.ex h
    split at z
    · obtain ⟨ds, m, z1, z2, z3⟩ := z
      exact ⟨ds, m, z1, z2, l.nx _ z3⟩
    · exact z.elim
  | .app i a, _, _, _, h, l => by
    rw [wS_app] at h ⊢
    exact ⟨h.1, wE_mono hC a (fun d st ⟨ds, z1, z2, z3⟩ => ⟨ds, z1, z2, l.nx _ z3⟩) l.ex h.2⟩
  | .ite t a b, _, _, _, h, l => by
    rw [wS_ite] at h ⊢
    refine wT_mono hC t (fun k st z => ?_) l.ex h
    split at z
    · rename_i hk; rw [if_pos hk]; exact wSs_mono hC a z l
    · rename_i hk; rw [if_neg hk]; exact wSs_mono hC b z l
  | .for_ k src tg body, _, E, E', h, l => by
    rw [wS_for] at h ⊢
    refine wL_mono hC src (fun ds st ⟨items, e, hl, z⟩ => ⟨items, e, hl, ?_⟩) l.ex h
    have m1 : MonF (fun x (st2 : Stt) R => ∃ e', tgS tg x st2.e = some e' ∧ wSs C body ⟨e', st2.h⟩ { nx := R, rt := E'.rt, bk := E'.nx, ct := R, ex := E'.ex }) := fun x st2 R R' ir ⟨e', he, z⟩ =>
      ⟨e', he, wSs_mono hC body z ⟨ir, fun _ _ z => z, fun _ z => z, ir, fun _ _ _ z => z⟩⟩
    refine forLoop_mono m1 l.nx ?_
    have key : ∀ (chk : Stt → Prop) (items : List D) (st : Stt), forLoop chk (fun x (st2 : Stt) R => ∃ e', tgS tg x st2.e = some e' ∧ wSs C body ⟨e', st2.h⟩ { nx := R, rt := E.rt, bk := E.nx, ct := R, ex := E.ex }) items st E.nx → forLoop chk (fun x (st2 : Stt) R => ∃ e', tgS tg x st2.e = some e' ∧ wSs C body ⟨e', st2.h⟩ { nx := R, rt := E'.rt, bk := E'.nx, ct := R, ex := E'.ex }) items st E.nx := by
      intro chk items
      induction items with
      | nil => exact fun st z => z
      | cons x xs ih =>
        intro st ⟨hk, e', he, z⟩
        exact ⟨hk, e', he, wSs_mono hC body z ⟨fun st z => ih st z, l.rt, l.nx, fun st z => ih st z, l.ex⟩⟩
    exact key _ items st z
  | .whl t body, _, E, E', h, l => by
    simp only [wS] at h ⊢
    obtain ⟨I, h0, turn⟩ := h
    refine ⟨I, h0, fun m st i => wT_mono hC t (fun k st z => ?_) l.ex (turn m st i)⟩
    split at z
    · rename_i hk; rw [if_pos hk]; exact wSs_mono hC body z ⟨fun _ z => z, l.rt, l.nx, fun _ z => z, l.ex⟩
    · rename_i hk; rw [if_neg hk]; exact l.nx _ z
  | .rais c es, _, _, _, h, l => by
    rw [wS_rais] at h ⊢
    exact wL_mono hC es (fun ds st z => ⟨z.1, l.ex _ _ _ z.2⟩) l.ex h
  | .tryA body cs suites, _, _, _, h, l => by
    rw [wS_try] at h ⊢
    exact wSs_mono hC body h ⟨l.nx, l.rt, l.bk, l.ct, fun c fs st z => wHs_mono hC cs suites z l⟩
  | .setF i x a, _, _, _, h, l => by
    rw [wS_setF] at h ⊢
    exact wE_mono hC a (fun d st ⟨k, c, fs, fs', z1, z2, z3⟩ => ⟨k, c, fs, fs', z1, z2, l.nx _ z3⟩) l.ex h
  | .par is es, _, _, _, h, l => by
    rw [wS_par] at h ⊢
    exact wL_mono hC es (fun ds st ⟨e', z1, z2⟩ => ⟨e', z1, l.nx _ z2⟩) l.ex h
theorem wHs_mono {C : Calls} (hC : MonC C) : ∀ (cs : List (Nat × Nat)) (suites : List (List Sm)) {c : Nat} {fs : List D} {st : Stt} {E E' : EndD}, wHs C cs suites c fs st E → EndLe E E' → wHs C cs suites c fs st E'
  | [], [], _, _, _, _, _, h, l => by rw [wHs_nil] at h ⊢; exact l.ex _ _ _ h
  | [], _ :: _, _, _, _, _, _, h, l => by simp only [wHs] at h ⊢; exact l.ex _ _ _ h
  | _ :: _, [], _, _, _, _, _, h, l => by simp only [wHs] at h ⊢; exact l.ex _ _ _ h
  | (k, i) :: cs, s :: suites, _, _, _, _, _, h, l => by
    rw [wHs_cons] at h ⊢
    split at h
    · rename_i hk; rw [if_pos hk]; exact wSs_mono hC s h ⟨fun _ z => ⟨z.1, l.nx _ z.2⟩, fun _ _ z => ⟨z.1, l.rt _ _ z.2⟩, fun _ z => ⟨z.1, l.bk _ z.2⟩, fun _ z => ⟨z.1, l.ct _ z.2⟩, fun _ _ _ z => z⟩
    · rename_i hk; rw [if_neg hk]; exact wHs_mono hC cs suites h l
theorem wSs_mono {C : Calls} (hC : MonC C) : ∀ (ss : List Sm) {st : Stt} {E E' : EndD}, wSs C ss st E → EndLe E E' → wSs C ss st E'
  | [], _, _, _, h, l => by rw [wSs_nil] at h ⊢; exact l.nx _ h
  | s :: ss, _, E, E', h, l => by
    rw [wSs_cons] at h ⊢
    exact wS_mono hC s h ⟨fun st z => wSs_mono hC ss z l, l.rt, l.bk, l.ct, l.ex⟩
end
theorem CC_mono {P : Nat → Option Fn} : ∀ n, MonC (CC P n)
  | 0 => fun f ds h Q Q' X X' _ _ z => by simp only [CC] at z
  | n + 1 => fun f ds h Q Q' X X' i ix z => by
    have z' : (match P f with
      | some fn => ds.length = fn.np ∧ wSs (CC P n) fn.body ⟨startE fn ds, h⟩ { nx := fun st => Q .non st.h, rt := fun d st => Q d st.h, bk := fun _ => False, ct := fun _ => False, ex := fun c fs st => X c fs st.h }
      | none => False) := z
    show (match P f with
      | some fn => ds.length = fn.np ∧ wSs (CC P n) fn.body ⟨startE fn ds, h⟩ { nx := fun st => Q' .non st.h, rt := fun d st => Q' d st.h, bk := fun _ => False, ct := fun _ => False, ex := fun c fs st => X' c fs st.h }
      | none => False)
    cases e : P f with
    | none => rw [e] at z'; exact z'
    | some fn =>
      rw [e] at z'
      exact ⟨z'.1, wSs_mono (CC_mono n) fn.body z'.2 ⟨fun _ => i _ _, fun _ _ => i _ _, fun _ z => z, fun _ z => z, fun _ _ _ => ix _ _ _⟩⟩
/-! ### the loops of programs -/
theorem for_ok {chk : Stt → Prop} {C : Calls} (hC : MonC C) {st : Stt} {E : EndD} {tg : Tg} {body : List Sm} {items : List D} (I : Nat → Stt → Prop) (hc : ∀ i st, I i st → chk st) (h0 : I 0 st)
    (hs : ∀ i x st, items[i]? = some x → I i st → ∃ e', tgS tg x st.e = some e' ∧ wSs C body ⟨e', st.h⟩ { nx := I (i + 1), rt := E.rt, bk := E.nx, ct := I (i + 1), ex := E.ex }) (he : ∀ st, I items.length st → E.nx st) :
    forLoop chk (fun x (st2 : Stt) R => ∃ e', tgS tg x st2.e = some e' ∧ wSs C body ⟨e', st2.h⟩ { nx := R, rt := E.rt, bk := E.nx, ct := R, ex := E.ex }) items st E.nx := by
  refine for_inv I (fun x st2 R R' ir ⟨e', he, z⟩ => ⟨e', he, wSs_mono hC body z ⟨ir, fun _ _ z => z, fun _ z => z, ir, fun _ _ _ z => z⟩⟩) hc items 0 st h0 (fun i x st e z => ?_) fun st z => he st (by simpa using z)
  have e0 : 0 + i = i := by omega
  rw [e0] at z ⊢
  exact hs i x st e z
theorem lc_ok {chk : Stt → Prop} {C : Calls} (hC : MonC C) {st : Stt} {Q : List D → Stt → Prop} {tg : Tg} {ifs : List Ex} {elt : Ex} {own : List Nat} {items : List D} (I : Nat → List D → Stt → Prop) (hc : ∀ i acc st, I i acc st → chk st) (h0 : I 0 [] st)
    (hs : ∀ i x acc st, items[i]? = some x → I i acc st → ∃ e', tgS tg x st.e = some e' ∧ wTs C ifs ⟨e', st.h⟩ (fun b st3 => if b = true then wE C elt st3 (fun y st4 => I (i + 1) (acc ++ [y]) ⟨hide st4.e own, st4.h⟩) (fun _ _ _ => False) else I (i + 1) acc ⟨hide st3.e own, st3.h⟩) (fun _ _ _ => False))
    (he : ∀ acc st, I items.length acc st → Q acc st) :
    lcLoop chk (fun x (st2 : Stt) R => ∃ e', tgS tg x st2.e = some e' ∧ wTs C ifs ⟨e', st2.h⟩ (fun b st3 => if b = true then wE C elt st3 (fun y st4 => R [y] ⟨hide st4.e own, st4.h⟩) (fun _ _ _ => False) else R [] ⟨hide st3.e own, st3.h⟩) (fun _ _ _ => False)) items [] st Q := by
  refine lc_inv I (fun x st2 R R' ir ⟨e', he, z⟩ => ⟨e', he, wTs_mono hC ifs (fun b st3 z => ?_) (fun _ _ _ z => z) z⟩) hc items 0 [] st h0 (fun i x acc st e z => ?_) fun acc st z => he acc st (by simpa using z)
  · have e0 : 0 + i = i := by omega
    rw [e0] at z ⊢
    have := hs i x acc st e z
    simpa only [List.append_nil] using this
  · split at z
    · rename_i hk; rw [if_pos hk]; exact wE_mono hC elt (fun y st4 => ir _ _) (fun _ _ _ z => z) z
    · rename_i hk; rw [if_neg hk]; exact ir _ _ z
end Mp
/-! two wishes for one run agree: what comes out is the same -/
namespace Mp
open PySem PySem.Spec L2
theorem int1_ag {ds : List D} {k k' : Int → Prop} {R : Prop} (i : ∀ a, k a → k' a → R) (h : int1 ds k) (h' : int1 ds k') : R := by
  unfold int1 at h h'; split at h
  · exact i _ h h'
  · exact h.elim
theorem int2_ag {ds : List D} {k k' : Int → Int → Prop} {R : Prop} (i : ∀ a b, k a b → k' a b → R) (h : int2 ds k) (h' : int2 ds k') : R := by
  unfold int2 at h h'; split at h
  · exact i _ _ h h'
  · exact h.elim
theorem any1_ag {ds : List D} {k k' : D → Prop} {R : Prop} (i : ∀ a, k a → k' a → R) (h : any1 ds k) (h' : any1 ds k') : R := by
  unfold any1 at h h'; split at h
  · exact i _ h h'
  · exact h.elim
theorem any2_ag {ds : List D} {k k' : D → D → Prop} {R : Prop} (i : ∀ a b, k a b → k' a b → R) (h : any2 ds k) (h' : any2 ds k') : R := by
  unfold any2 at h h'; split at h
  · exact i _ _ h h'
  · exact h.elim
theorem str2_ag {ds : List D} {k k' : Str → Str → Prop} {R : Prop} (i : ∀ a b, k a b → k' a b → R) (h : str2 ds k) (h' : str2 ds k') : R := by
  unfold str2 at h h'; split at h
  · exact i _ _ h h'
  · exact h.elim
theorem cutW_ag {a : D} {lo hi : Option Int} {Q Q' : D → Prop} (h : cutW a lo hi Q) (h' : cutW a lo hi Q') : ∃ d, Q d ∧ Q' d := by
  unfold cutW at h h'
  split at h <;> first | exact ⟨_, h, h'⟩ | exact ⟨_, h.2, h'.2⟩ | exact h.elim
theorem opW_ag {o : Op} {ds : List D} {Q Q' : D → Prop} (h : opW o ds Q) (h' : opW o ds Q') : ∃ d, Q d ∧ Q' d := by
  cases o with
  | add => have h1 : addW ds Q := h
           have h2 : addW ds Q' := h'
           unfold addW at h1 h2
           split at h1 <;> first | exact ⟨_, h1, h2⟩ | exact ⟨_, h1.2, h2.2⟩ | exact h1.elim
  | sub => exact int2_ag (fun _ _ z z' => ⟨_, z, z'⟩) h h'
  | mul => have h1 : mulW ds Q := h
           have h2 : mulW ds Q' := h'
           unfold mulW at h1 h2
           split at h1 <;> first | exact ⟨_, h1.2, h2.2⟩ | exact h1.elim
  | fdiv => exact int2_ag (fun _ _ z z' => ⟨_, z.2, z'.2⟩) h h'
  | mod => exact int2_ag (fun _ _ z z' => ⟨_, z.2, z'.2⟩) h h'
  | pow => exact int2_ag (fun _ _ z z' => ⟨_, z.2, z'.2⟩) h h'
  | fdivN => exact int2_ag (fun _ _ z z' => ⟨_, z.2, z'.2⟩) h h'
  | modN => exact int2_ag (fun _ _ z z' => ⟨_, z.2, z'.2⟩) h h'
  | neg => exact int1_ag (fun _ z z' => ⟨_, z, z'⟩) h h'
  | eq => exact any2_ag (fun _ _ z z' => ⟨_, z.2, z'.2⟩) h h'
  | ne => exact any2_ag (fun _ _ z z' => ⟨_, z.2, z'.2⟩) h h'
  | eqL => have h1 : eqLW false ds Q := h
           have h2 : eqLW false ds Q' := h'
           unfold eqLW at h1 h2
           split at h1
           · obtain ⟨k, a, b⟩ := h1
             obtain ⟨k', a', b'⟩ := h2
             cases a.symm.trans a'
             exact ⟨_, b, b'⟩
           · exact h1.elim
  | neL => have h1 : eqLW true ds Q := h
           have h2 : eqLW true ds Q' := h'
           unfold eqLW at h1 h2
           split at h1
           · obtain ⟨k, a, b⟩ := h1
             obtain ⟨k', a', b'⟩ := h2
             cases a.symm.trans a'
             exact ⟨_, b, b'⟩
           · exact h1.elim
  | inM => have h1 : inMW false ds Q := h
           have h2 : inMW false ds Q' := h'
           unfold inMW at h1 h2
           split at h1 <;> first | exact ⟨_, h1.2, h2.2⟩ | exact h1.elim
  | ninM => have h1 : inMW true ds Q := h
            have h2 : inMW true ds Q' := h'
            unfold inMW at h1 h2
            split at h1 <;> first | exact ⟨_, h1.2, h2.2⟩ | exact h1.elim
  | lt => exact int2_ag (fun _ _ z z' => ⟨_, z, z'⟩) h h'
  | le => exact int2_ag (fun _ _ z z' => ⟨_, z, z'⟩) h h'
  | gt => exact int2_ag (fun _ _ z z' => ⟨_, z, z'⟩) h h'
  | ge => exact int2_ag (fun _ _ z z' => ⟨_, z, z'⟩) h h'
  | isN => exact any1_ag (fun _ z z' => ⟨_, z, z'⟩) h h'
  | isNotN => exact any1_ag (fun _ z z' => ⟨_, z, z'⟩) h h'
  | in_ => have h1 : inW false ds Q := h
           have h2 : inW false ds Q' := h'
           unfold inW at h1 h2
           split at h1 <;> first | exact ⟨_, h1, h2⟩ | exact ⟨_, h1.2, h2.2⟩ | exact h1.elim
  | notIn => have h1 : inW true ds Q := h
             have h2 : inW true ds Q' := h'
             unfold inW at h1 h2
             split at h1 <;> first | exact ⟨_, h1, h2⟩ | exact ⟨_, h1.2, h2.2⟩ | exact h1.elim
  | len => refine any1_ag (fun a z z' => ?_) h h'
           unfold lenW at z z'
           split at z <;> first | exact ⟨_, z, z'⟩ | exact ⟨_, z.2, z'.2⟩ | exact z.elim
  | abs => exact int1_ag (fun _ z z' => ⟨_, z, z'⟩) h h'
  | max2 => exact int2_ag (fun _ _ z z' => ⟨_, z, z'⟩) h h'
  | min2 => exact int2_ag (fun _ _ z z' => ⟨_, z, z'⟩) h h'
  | toInt => refine any1_ag (fun a z z' => ?_) h h'
             unfold toIntW at z z'
             split at z <;> first | exact ⟨_, z, z'⟩ | exact z.elim
  | toStr => exact int1_ag (fun _ z z' => ⟨_, z.2, z'.2⟩) h h'
  | repr => exact any1_ag (fun _ ⟨x, e, z⟩ ⟨x', e', z'⟩ => by cases e.symm.trans e'; exact ⟨_, z, z'⟩) h h'
  | toList => refine any1_ag (fun a z z' => ?_) h h'
              cases a with
              | str y => exact ⟨_, z.2, z'.2⟩
              | _ =>
                obtain ⟨x, e, z⟩ := z
                obtain ⟨x', e', z'⟩ := z'
                cases e.symm.trans e'
                exact ⟨_, z, z'⟩
  | toTuple => exact any1_ag (fun _ ⟨x, e, z⟩ ⟨x', e', z'⟩ => by cases e.symm.trans e'; exact ⟨_, z, z'⟩) h h'
  | item => have h1 : itemW ds Q := h
            have h2 : itemW ds Q' := h'
            match ds, h1, h2 with
            | [y, z], h1, h2 =>
              cases z with
              | int i =>
                cases y with
                | str y =>
                  obtain ⟨c, a, b, q⟩ := h1
                  obtain ⟨c', a', b', q'⟩ := h2
                  cases b.symm.trans b'
                  exact ⟨_, q, q'⟩
                | _ =>
                  obtain ⟨es, d, a, b, q⟩ := h1
                  obtain ⟨es', d', a', b', q'⟩ := h2
                  cases a.symm.trans a'
                  cases b.symm.trans b'
                  exact ⟨_, q, q'⟩
              | _ => exact absurd h1 (by cases y <;> exact id)
            | [], h1, _ => exact h1.elim
            | [y], h1, _ => exact absurd h1 (by cases y <;> exact id)
            | x :: y :: z :: w, h1, _ => exact absurd h1 (by cases x <;> cases y <;> exact id)
  | isi ts t => exact any1_ag (fun _ z z' => ⟨_, z.2, z'.2⟩) h h'
  | sl lo hi => have h1 : slW lo hi ds Q := h
                have h2 : slW lo hi ds Q' := h'
                unfold slW at h1 h2
                split at h1 <;> first | exact cutW_ag h1 h2 | exact h1.elim
  | rev => refine any1_ag (fun a z z' => ?_) h h'
           unfold revW at z z'
           split at z <;> first | exact ⟨_, z, z'⟩ | exact z.elim
  | join => have h1 : joinW ds Q := h
            have h2 : joinW ds Q' := h'
            unfold joinW at h1 h2
            split at h1
            · obtain ⟨es, ys, a, b, c, q⟩ := h1
              obtain ⟨es', ys', a', b', c', q'⟩ := h2
              cases a.symm.trans a'
              cases b.symm.trans b'
              exact ⟨_, q, q'⟩
            · exact h1.elim
  | split => exact str2_ag (fun _ _ z z' => ⟨_, z.2, z'.2⟩) h h'
  | rmpre => exact str2_ag (fun _ _ z z' => ⟨_, z.2, z'.2⟩) h h'
  | starts => exact str2_ag (fun _ _ z z' => ⟨_, z, z'⟩) h h'
  | index => exact str2_ag (fun _ _ ⟨x, e, z⟩ ⟨x', e', z'⟩ => by cases e.symm.trans e'; exact ⟨_, z, z'⟩) h h'
  | find => exact str2_ag (fun _ _ z z' => ⟨_, z, z'⟩) h h'
  | fld x => refine any1_ag (fun a z z' => ?_) h h'
             unfold fldW at z z'
             split at z
             · obtain ⟨k, v, a, b, q⟩ := z
               obtain ⟨k', v', a', b', q'⟩ := z'
               cases a.symm.trans a'
               cases b.symm.trans b'
               exact ⟨_, q, q'⟩
             · exact z.elim
  | all => exact any1_ag (fun _ ⟨es, bs, a, b, q⟩ ⟨es', bs', a', b', q'⟩ => by cases a.symm.trans a'; cases b.symm.trans b'; exact ⟨_, q, q'⟩) h h'
  | any => exact any1_ag (fun _ ⟨es, bs, a, b, q⟩ ⟨es', bs', a', b', q'⟩ => by cases a.symm.trans a'; cases b.symm.trans b'; exact ⟨_, q, q'⟩) h h'
  | sum => exact any1_ag (fun _ ⟨es, bs, a, b, q⟩ ⟨es', bs', a', b', q'⟩ => by cases a.symm.trans a'; cases b.symm.trans b'; exact ⟨_, q, q'⟩) h h'
  | maxL => exact any1_ag (fun _ ⟨es, bs, a, b, c, q⟩ ⟨es', bs', a', b', c', q'⟩ => by cases a.symm.trans a'; cases b.symm.trans b'; exact ⟨_, q, q'⟩) h h'
  | minL => exact any1_ag (fun _ ⟨es, bs, a, b, c, q⟩ ⟨es', bs', a', b', c', q'⟩ => by cases a.symm.trans a'; cases b.symm.trans b'; exact ⟨_, q, q'⟩) h h'
  | isT => refine any1_ag (fun a z z' => ?_) h h'
           unfold isBW at z z'
           split at z <;> first | exact ⟨_, z, z'⟩ | exact z.elim
  | isF => refine any1_ag (fun a z z' => ?_) h h'
           unfold isBW at z z'
           split at z <;> first | exact ⟨_, z, z'⟩ | exact z.elim
  | isNT => refine any1_ag (fun a z z' => ?_) h h'
            unfold isBW at z z'
            split at z <;> first | exact ⟨_, z, z'⟩ | exact z.elim
  | isNF => refine any1_ag (fun a z z' => ?_) h h'
            unfold isBW at z z'
            split at z <;> first | exact ⟨_, z, z'⟩ | exact z.elim
  | rng1 => exact int1_ag (fun _ z z' => ⟨_, z.2, z'.2⟩) h h'
  | rng2 => exact int2_ag (fun _ _ z z' => ⟨_, z.2, z'.2⟩) h h'
  | sorted => exact any1_ag (fun _ ⟨es, bs, a, b, q⟩ ⟨es', bs', a', b', q'⟩ => by cases a.symm.trans a'; cases b.symm.trans b'; exact ⟨_, q, q'⟩) h h'
  | diff tp => exact any1_ag (fun _ ⟨es, out, a, b, c, q⟩ ⟨es', out', a', b', c', q'⟩ => by cases a.symm.trans a'; cases c.symm.trans c'; exact ⟨_, q, q'⟩) h h'
def AgC (C : Calls) : Prop := ∀ f ds h (Q Q' : D → List CO → Prop) (X X' : Nat → List D → List CO → Prop), C f ds h Q X → C f ds h Q' X' → (∃ d h', Q d h' ∧ Q' d h') ∨ ∃ c fs h', X c fs h' ∧ X' c fs h'
abbrev A2 {α : Type} (Q Q' : α → Stt → Prop) (X X' : PX) : Prop := (∃ a st, Q a st ∧ Q' a st) ∨ ∃ c fs st, X c fs st ∧ X' c fs st
theorem A2.bind {α β : Type} {Q Q' : α → Stt → Prop} {R R' : β → Stt → Prop} {X X' Y Y' : PX} (h : A2 Q Q' X X') (f : ∀ a st, Q a st → Q' a st → A2 R R' Y Y') (g : ∀ c fs st, X c fs st → X' c fs st → A2 R R' Y Y') : A2 R R' Y Y' := by
  rcases h with ⟨a, st, z, z'⟩ | ⟨c, fs, st, z, z'⟩
  · exact f a st z z'
  · exact g c fs st z z'
theorem A2.bind' {α β : Type} {Q Q' : α → Stt → Prop} {R R' : β → Stt → Prop} {X X' : PX} (h : A2 Q Q' X X') (f : ∀ a st, Q a st → Q' a st → A2 R R' X X') : A2 R R' X X' :=
  h.bind f fun c fs st z z' => .inr ⟨c, fs, st, z, z'⟩
theorem A2.ret {α : Type} {Q Q' : α → Stt → Prop} {X X' : PX} {a : α} {st : Stt} (z : Q a st) (z' : Q' a st) : A2 Q Q' X X' := .inl ⟨a, st, z, z'⟩
/-- the turns of a comprehension agree -/
theorem lcLoop_ag {chk : Stt → Prop} {turn turn' : D → Stt → (List D → Stt → Prop) → Prop} {Q Q' : List D → Stt → Prop} (ht : ∀ x st R R', turn x st R → turn' x st R' → ∃ r st', R r st' ∧ R' r st') : ∀ {items acc : List D} {st : Stt},
    lcLoop chk turn items acc st Q → lcLoop chk turn' items acc st Q' → ∃ a st, Q a st ∧ Q' a st
  | [], _, _, z, z' => ⟨_, _, z.2, z'.2⟩
  | x :: xs, acc, st, z, z' => by
    obtain ⟨r, st', y, y'⟩ := ht x st _ _ z.2 z'.2
    exact lcLoop_ag ht y y'
mutual
theorem wE_ag {C : Calls} (hC : AgC C) : ∀ (e : Ex) {st : Stt} {Q Q' : PD} {X X' : PX}, wE C e st Q X → wE C e st Q' X' → A2 Q Q' X X'
  | .con d, _, _, _, _, _, h, h' => by rw [wE_con] at h h'; exact .ret h h'
  | .var k, _, _, _, _, _, h, h' => by
    rw [wE_var] at h h'
    split at h
    · rename_i e; rw [e] at h'; exact .ret h h'
    · rename_i e; rw [e] at h'; exact .ret h h'
    · exact h.elim
  | .brw k, _, _, _, _, _, h, h' => by simp only [wE] at h
  | .mov k, _, _, _, _, _, h, h' => by
    rw [wE_mov] at h h'
    split at h
    · rename_i e; rw [e] at h'; exact .ret h h'
    · rename_i e; rw [e] at h'; exact .ret h.2 h'.2
    · exact h.elim
  | .op o es, _, _, _, _, _, h, h' => by
    rw [wE_op] at h h'
    refine (wA_ag hC es h h').bind' fun ds st z z' => ?_
    obtain ⟨d, y, y'⟩ := opW_ag z z'
    exact .ret y y'
  | .tup es, _, _, _, _, _, h, h' => by
    rw [wE_tup] at h h'
    exact (wL_ag hC es h h').bind' fun ds st z z' => .ret z.2 z'.2
  | .lst es, _, _, _, _, _, h, h' => by
    rw [wE_lst] at h h'
    exact (wL_ag hC es h h').bind' fun ds st z z' => .ret z.2 z'.2
  | .disp tp fl es, _, _, _, _, _, h, h' => by
    rw [wE_disp] at h h'
    exact (wD_ag hC fl es h h').bind' fun ds st z z' => .ret z.2 z'.2
  | .fst es, _, _, _, _, _, h, h' => by
    rw [wE_fst] at h h'
    exact (wF_ag hC es h h').bind' fun x st z z' => .ret z z'
  | .andV a b, _, _, _, _, _, h, h' => by
    rw [wE_andV] at h h'
    refine (wE_ag hC a h h').bind' fun d st ⟨k, e, z⟩ ⟨k', e', z'⟩ => ?_
    cases e.symm.trans e'
    split at z
    · rename_i hk; rw [if_pos hk] at z'; exact wE_ag hC b z z'
    · rename_i hk; rw [if_neg hk] at z'; exact .ret z z'
  | .orV a b, _, _, _, _, _, h, h' => by
    rw [wE_orV] at h h'
    refine (wE_ag hC a h h').bind' fun d st ⟨k, e, z⟩ ⟨k', e', z'⟩ => ?_
    cases e.symm.trans e'
    split at z
    · rename_i hk; rw [if_pos hk] at z'; exact .ret z z'
    · rename_i hk; rw [if_neg hk] at z'; exact wE_ag hC b z z'
  | .notV a, _, _, _, _, _, h, h' => by
    rw [wE_notV] at h h'
    refine (wE_ag hC a h h').bind' fun d st ⟨k, e, z⟩ ⟨k', e', z'⟩ => ?_
    cases e.symm.trans e'
    exact .ret z z'
  | .tAnd a b, _, _, _, _, _, h, _ => by simp only [wE] at h
  | .tOr a b, _, _, _, _, _, h, _ => by simp only [wE] at h
  | .tNot a, _, _, _, _, _, h, _ => by simp only [wE] at h
  | .tru a, _, _, _, _, _, h, _ => by simp only [wE] at h
  | .tb a, _, _, _, _, _, h, _ => by simp only [wE] at h
  | .ite t a b, _, _, _, _, _, h, h' => by
    rw [wE_ite] at h h'
    refine (wT_ag hC t h h').bind' fun k st z z' => ?_
    split at z
    · rename_i hk; rw [if_pos hk] at z'; exact wE_ag hC a z z'
    · rename_i hk; rw [if_neg hk] at z'; exact wE_ag hC b z z'
  | .chn p q a b c, _, _, _, _, _, h, h' => by
    rw [wE_chn] at h h'
    refine (wE_ag hC a h h').bind' fun x st1 z z' => (wE_ag hC b z z').bind' fun y st2 z z' => ?_
    obtain ⟨r, ⟨k, e, z⟩, k', e', z'⟩ := opW_ag z z'
    cases e.symm.trans e'
    split at z
    · rename_i hk
      rw [if_pos hk] at z'
      refine (wE_ag hC c z z').bind' fun w st3 z z' => ?_
      obtain ⟨d, y, y'⟩ := opW_ag z z'
      exact .ret y y'
    · rename_i hk; rw [if_neg hk] at z'; exact .ret z z'
  | .call f es ar, _, _, _, _, _, h, h' => by
    rw [wE_call] at h h'
    refine (wL_ag hC es h h').bind' fun ds st z z' => ?_
    rcases hC _ _ _ _ _ _ _ z z' with ⟨d, h, y, y'⟩ | ⟨c, fs, h, y, y'⟩
    · exact .ret y y'
    · exact .inr ⟨c, fs, _, y, y'⟩
  | .dct ks vs, st, Q, Q', X, X', h, h' => by
    match ks, vs, h, h' with
    | [], [], h, h' => rw [wE_dct0] at h h'; exact .ret h h'
    | [k], [v], h, h' =>
      rw [wE_dct1] at h h'
      exact (wE_ag hC k h h').bind' fun a st1 z z' => (wE_ag hC v z z').bind' fun b st2 z z' => .ret z.2 z'.2
    | [], _ :: _, h, _ => simp only [wE] at h
    | _ :: _, [], h, _ => simp only [wE] at h
    | [_], _ :: _ :: _, h, _ => simp only [wE] at h
    | _ :: _ :: _, _ :: _, h, _ => simp only [wE] at h
  | .cel a, _, _, _, _, _, h, h' => by
    rw [wE_cel] at h h'
    refine (wE_ag hC a h h').bind' fun d st z z' => ?_
    cases d with
    | lst ds => exact .ret z z'
    | dic ks vs => exact .ret z z'
    | _ => exact .ret z.2 z'.2
  | .make c fz f es ar, _, _, _, _, _, h, h' => by
    rw [wE_make] at h h'
    refine (wL_ag hC es h h').bind' fun ds st z z' => ?_
    cases fz with
    | true =>
      rcases hC _ _ _ _ _ _ _ z z' with ⟨d, h, ⟨y1, fs, y2, y3, y⟩, y1', fs', y2', y3', y'⟩ | ⟨k, fs, h, ⟨y1, y2, y⟩, y1', y2', y'⟩
      · rw [y2] at y2'
        have e : fs = fs' := by simpa using y2'
        subst e
        exact .ret y y'
      · exact .inr ⟨k, fs, _, y, y'⟩
    | false =>
      rcases hC _ _ _ _ _ _ _ z z' with ⟨d, h, ⟨y1, y⟩, y1', y'⟩ | ⟨k, fs, h, y, y'⟩
      · exact .ret y y'
      · exact .inr ⟨k, fs, _, y, y'⟩
  | .meth k c f es ar, _, _, _, _, _, h, h' => by
    match es, h, h' with
    | [], h, _ => simp only [wE] at h
    | r :: es, h, h' =>
      rw [wE_meth] at h h'
      refine (wE_ag hC r h h').bind' fun d st1 ⟨z1, z2⟩ ⟨z1', z2'⟩ => (wL_ag hC es z2 z2').bind' fun ds st2 ⟨z3, z5, z4⟩ ⟨z3', z5', z4'⟩ => ?_
      rcases hC _ _ _ _ _ _ _ z4 z4' with ⟨d, h, y, y'⟩ | ⟨c, fs, h, y, y'⟩
      · cases k
        · exact .ret y y'
        · exact .ret y y'
        · obtain ⟨n, a, b, q⟩ := y; obtain ⟨n', a', b', q'⟩ := y'; exact .ret q q'
        · obtain ⟨n, a, q⟩ := y; obtain ⟨n', a', q'⟩ := y'; cases a.symm.trans a'; exact .ret q q'
        · obtain ⟨n, a, q⟩ := y; obtain ⟨n', a', q'⟩ := y'; cases a.symm.trans a'; exact .ret q q'
        · exact .ret y y'
        · obtain ⟨n, a, q⟩ := y; obtain ⟨n', a', q'⟩ := y'; cases a.symm.trans a'; exact .ret q q'
        · obtain ⟨n, a, q⟩ := y; obtain ⟨n', a', q'⟩ := y'; cases a.symm.trans a'; exact .ret q q'
        · obtain ⟨n, a, q⟩ := y; obtain ⟨n', a', q'⟩ := y'; exact .ret q q'
      · exact .inr ⟨c, fs, _, y.2, y'.2⟩
  | .xfl k x, _, _, _, _, _, h, h' => by
    rw [wE_xfl] at h h'
    split at h
    · rename_i e
      rw [e] at h'
      obtain ⟨k, d, a, b, q⟩ := h
      obtain ⟨k', d', a', b', q'⟩ := h'
      cases a.symm.trans a'
      cases b.symm.trans b'
      exact .ret q q'
    · exact h.elim
  | .xis k x, _, _, _, _, _, h, h' => by
    rw [wE_xis] at h h'
    split at h
    · rename_i e; rw [e] at h'; exact .ret h h'
    · exact h.elim
  | .pop k a, _, _, _, _, _, h, h' => by
    rw [wE_pop] at h h'
    refine (wE_ag hC a h.2 h'.2).bind' fun d st z z' => ?_
    split at z
    · rename_i e3
      rw [e3] at z'
      obtain ⟨z1, x, r, z2, z3⟩ := z
      obtain ⟨z1', x', r', z2', z3'⟩ := z'
      cases z2.symm.trans z2'
      exact .ret z3 z3'
    · exact z.elim
  | .lc k src tg ifs elt own, _, _, _, _, _, h, h' => by
    rw [wE_lc] at h h'
    refine (wL_ag hC src h h').bind' fun ds st ⟨items, e, l, z⟩ ⟨items', e', l', z'⟩ => ?_
    cases e.symm.trans e'
    refine .inl ?_
    obtain ⟨a, st5, y, y'⟩ := lcLoop_ag (fun x st2 R R' ⟨e1, h1, w⟩ ⟨e2, h2, w'⟩ => by
      cases h1.symm.trans h2
      rcases wTs_ag hC ifs w w' with ⟨b, st3, y, y'⟩ | ⟨_, _, _, y, _⟩
      · split at y
        · rename_i hk
          rw [if_pos hk] at y'
          rcases wE_ag hC elt y y' with ⟨d, st4, v, v'⟩ | ⟨_, _, _, v, _⟩
          · exact ⟨_, _, v, v'⟩
          · exact v.elim
        · rename_i hk; rw [if_neg hk] at y'; exact ⟨_, _, y, y'⟩
      · exact y.elim) z z'
    exact ⟨_, _, y, y'⟩
theorem wA_ag {C : Calls} (hC : AgC C) : ∀ (es : List Ex) {st : Stt} {Q Q' : List D → Stt → Prop} {X X' : PX}, wA C es st Q X → wA C es st Q' X' → A2 Q Q' X X'
  | [], _, _, _, _, _, h, h' => by rw [wA_nil] at h h'; exact .ret h h'
  | e :: es, st, Q, Q', X, X', h, h' => by
    by_cases hb : nbrw e = true
    · rw [wA_cons hb] at h h'
      exact (wE_ag hC e h h').bind' fun d st1 z z' => (wA_ag hC es z z').bind' fun ds st2 z z' => .ret z z'
    · cases e with
      | brw k =>
        rw [wA_brw] at h h'
        refine (wA_ag hC es h.2 h'.2).bind' fun ds st2 ⟨d, e, z⟩ ⟨d', e', z'⟩ => ?_
        cases e.symm.trans e'
        exact .ret z z'
      | _ => exact absurd rfl hb
theorem wD_ag {C : Calls} (hC : AgC C) : ∀ (fl : List Bool) (es : List Ex) {st : Stt} {Q Q' : List D → Stt → Prop} {X X' : PX}, wD C fl es st Q X → wD C fl es st Q' X' → A2 Q Q' X X'
  | [], [], _, _, _, _, _, h, h' => by rw [wD_nil] at h h'; exact .ret h h'
  | true :: fl, e :: es, _, _, _, _, _, h, h' => by
    rw [wD_star] at h h'
    refine (wE_ag hC e h h').bind' fun d st ⟨xs, e1, z⟩ ⟨xs', e1', z'⟩ => ?_
    cases e1.symm.trans e1'
    exact (wD_ag hC fl es z z').bind' fun ds st z z' => .ret z z'
  | false :: fl, e :: es, _, _, _, _, _, h, h' => by
    rw [wD_cons] at h h'
    exact (wE_ag hC e h h').bind' fun d st z z' => (wD_ag hC fl es z z').bind' fun ds st z z' => .ret z z'
  | [], _ :: _, _, _, _, _, _, h, _ => by simp only [wD] at h
  | _ :: _, [], _, _, _, _, _, h, _ => by simp only [wD] at h
theorem wF_ag {C : Calls} (hC : AgC C) : ∀ (es : List Ex) {acc : Str} {st : Stt} {Q Q' : Str → Stt → Prop} {X X' : PX}, wF C es acc st Q X → wF C es acc st Q' X' → A2 Q Q' X X'
  | [], _, _, _, _, _, _, h, h' => by rw [wF_nil] at h h'; exact .ret h h'
  | e :: es, _, _, _, _, _, _, h, h' => by
    rw [wF_cons] at h h'
    refine (wE_ag hC e h h').bind' fun d st ⟨y, e1, e2, z⟩ ⟨y', e1', e2', z'⟩ => ?_
    cases e1.symm.trans e1'
    exact wF_ag hC es z z'
theorem wL_ag {C : Calls} (hC : AgC C) : ∀ (es : List Ex) {st : Stt} {Q Q' : List D → Stt → Prop} {X X' : PX}, wL C es st Q X → wL C es st Q' X' → A2 Q Q' X X'
  | [], _, _, _, _, _, h, h' => by rw [wL_nil] at h h'; exact .ret h h'
  | e :: es, st, Q, Q', X, X', h, h' => by
    rw [wL_cons] at h h'
    exact (wE_ag hC e h h').bind' fun d st1 z z' => (wL_ag hC es z z').bind' fun ds st2 z z' => .ret z z'
theorem wT_ag {C : Calls} (hC : AgC C) : ∀ (e : Ex) {st : Stt} {Q Q' : Bool → Stt → Prop} {X X' : PX}, wT C e st Q X → wT C e st Q' X' → A2 Q Q' X X'
  | .tAnd a b, _, _, _, _, _, h, h' => by
    rw [wT_and] at h h'
    refine (wT_ag hC a h h').bind' fun k st z z' => ?_
    split at z
    · rename_i hk; rw [if_pos hk] at z'; exact wT_ag hC b z z'
    · rename_i hk; rw [if_neg hk] at z'; exact .ret z z'
  | .tOr a b, _, _, _, _, _, h, h' => by
    rw [wT_or] at h h'
    refine (wT_ag hC a h h').bind' fun k st z z' => ?_
    split at z
    · rename_i hk; rw [if_pos hk] at z'; exact .ret z z'
    · rename_i hk; rw [if_neg hk] at z'; exact wT_ag hC b z z'
  | .tNot a, _, _, _, _, _, h, h' => by
    rw [wT_not] at h h'
    exact (wT_ag hC a h h').bind' fun k st z z' => .ret z z'
  | .tru a, _, _, _, _, _, h, h' => by
    rw [wT_tru] at h h'
    refine (wE_ag hC a h h').bind' fun d st ⟨k, e, z⟩ ⟨k', e', z'⟩ => ?_
    cases e.symm.trans e'
    exact .ret z z'
  | .tb a, _, _, _, _, _, h, h' => by
    rw [wT_tb] at h h'
    refine (wE_ag hC a h h').bind' fun d st ⟨k, e, z⟩ ⟨k', e', z'⟩ => ?_
    cases e.symm.trans e'
    exact .ret z z'
  | .con _, _, _, _, _, _, h, _ => by simp only [wT] at h
  | .var _, _, _, _, _, _, h, _ => by simp only [wT] at h
  | .brw _, _, _, _, _, _, h, _ => by simp only [wT] at h
  | .mov _, _, _, _, _, _, h, _ => by simp only [wT] at h
  | .op _ _, _, _, _, _, _, h, _ => by simp only [wT] at h
  | .tup _, _, _, _, _, _, h, _ => by simp only [wT] at h
  | .lst _, _, _, _, _, _, h, _ => by simp only [wT] at h
  | .disp _ _ _, _, _, _, _, _, h, _ => by simp only [wT] at h
  | .fst _, _, _, _, _, _, h, _ => by simp only [wT] at h
  | .dct _ _, _, _, _, _, _, h, _ => by simp only [wT] at h
  | .andV _ _, _, _, _, _, _, h, _ => by simp only [wT] at h
  | .orV _ _, _, _, _, _, _, h, _ => by simp only [wT] at h
  | .notV _, _, _, _, _, _, h, _ => by simp only [wT] at h
  | .ite _ _ _, _, _, _, _, _, h, _ => by simp only [wT] at h
  | .chn _ _ _ _ _, _, _, _, _, _, h, _ => by simp only [wT] at h
  | .call _ _ _, _, _, _, _, _, h, _ => by simp only [wT] at h
  | .cel _, _, _, _, _, _, h, _ => by simp only [wT] at h
  | .pop _ _, _, _, _, _, _, h, _ => by simp only [wT] at h
  | .lc _ _ _ _ _ _, _, _, _, _, _, h, _ => by simp only [wT] at h
  | .make _ _ _ _ _, _, _, _, _, _, h, _ => by simp only [wT] at h
  | .meth _ _ _ _ _, _, _, _, _, _, h, _ => by simp only [wT] at h
  | .xfl _ _, _, _, _, _, _, h, _ => by simp only [wT] at h
  | .xis _ _, _, _, _, _, _, h, _ => by simp only [wT] at h
theorem wTs_ag {C : Calls} (hC : AgC C) : ∀ (es : List Ex) {st : Stt} {Q Q' : Bool → Stt → Prop} {X X' : PX}, wTs C es st Q X → wTs C es st Q' X' → A2 Q Q' X X'
  | [], _, _, _, _, _, h, h' => by rw [wTs_nil] at h h'; exact .ret h h'
  | e :: es, st, Q, Q', X, X', h, h' => by
    rw [wTs_cons] at h h'
    refine (wT_ag hC e h h').bind' fun k st z z' => ?_
    split at z
    · rename_i hk; rw [if_pos hk] at z'; exact wTs_ag hC es z z'
    · rename_i hk; rw [if_neg hk] at z'; exact .ret z z'
end
/-- two ends agree -/
inductive AE (E E' : EndD) : Prop
  | nx (st : Stt) : E.nx st → E'.nx st → AE E E'
  | rt (d : D) (st : Stt) : E.rt d st → E'.rt d st → AE E E'
  | bk (st : Stt) : E.bk st → E'.bk st → AE E E'
  | ct (st : Stt) : E.ct st → E'.ct st → AE E E'
  | ex (c : Nat) (fs : List D) (st : Stt) : E.ex c fs st → E'.ex c fs st → AE E E'
theorem A2.ae {α : Type} {Q Q' : α → Stt → Prop} {E E' : EndD} (h : A2 Q Q' E.ex E'.ex) (f : ∀ a st, Q a st → Q' a st → AE E E') : AE E E' := by
  rcases h with ⟨a, st, z, z'⟩ | ⟨c, fs, st, z, z'⟩
  · exact f a st z z'
  · exact .ex c fs st z z'
mutual
theorem wS_ag {C : Calls} (hC : AgC C) : ∀ (s : Sm) {st : Stt} {E E' : EndD}, wS C s st E → wS C s st E' → AE E E'
  | .pass, _, _, _, h, h' => by rw [wS_pass] at h h'; exact .nx _ h h'
  | .brk, _, _, _, h, h' => by rw [wS_brk] at h h'; exact .bk _ h h'
  | .cnt, _, _, _, h, h' => by rw [wS_cnt] at h h'; exact .ct _ h h'
  | .ret a, _, _, _, h, h' => by rw [wS_ret] at h h'; exact (wE_ag hC a h h').ae fun d st z z' => .rt d st z z'
  | .exp a, _, _, _, h, h' => by rw [wS_exp] at h h'; exact (wE_ag hC a h h').ae fun d st z z' => .nx st z z'
  | .asg tg a, _, _, _, h, h' => by
    rw [wS_asg] at h h'
    refine (wE_ag hC a h h').ae fun d st ⟨e, he, z⟩ ⟨e', he', z'⟩ => ?_
    cases he.symm.trans he'
    exact .nx _ z z'
  | .asgO i a, _, _, _, h, h' => by
    rw [wS_asgO] at h h'
    exact (wE_ag hC a h h').ae fun d st z z' => .nx _ z z'
  | .setI i k a, _, _, _, h, h' => by
    rw [wS_setI] at h h'
    refine (wE_ag hC a h h').ae fun d st z z' => (wE_ag hC k z.2 z'.2).ae fun j st2 y y' => ?_
    split at y
    · obtain ⟨ds, m, z1, z2, z3⟩ := y
      obtain ⟨ds', m', z1', z2', z3'⟩ := y'
      cases z1.symm.trans z1'
      cases z2.symm.trans z2'
      exact .nx _ z3 z3'
    · exact y.elim
  | .app i a, _, _, _, h, h' => by
    rw [wS_app] at h h'
    refine (wE_ag hC a h.2 h'.2).ae fun d st ⟨ds, z1, z2, z3⟩ ⟨ds', z1', z2', z3'⟩ => ?_
    cases z1.symm.trans z1'
    exact .nx _ z3 z3'
  | .ite t a b, _, _, _, h, h' => by
    rw [wS_ite] at h h'
    refine (wT_ag hC t h h').ae fun k st z z' => ?_
    split at z
    · rename_i hk; rw [if_pos hk] at z'; exact wSs_ag hC a z z'
    · rename_i hk; rw [if_neg hk] at z'; exact wSs_ag hC b z z'
  | .for_ k src tg body, _, E, E', h, h' => by
    rw [wS_for] at h h'
    refine (wL_ag hC src h h').ae fun ds st ⟨items, e, hl, z⟩ ⟨items', e', hl', z'⟩ => ?_
    cases e.symm.trans e'
    have key : ∀ (chk : Stt → Prop) (items : List D) (st : Stt), forLoop chk (fun x (st2 : Stt) R => ∃ e', tgS tg x st2.e = some e' ∧ wSs C body ⟨e', st2.h⟩ { nx := R, rt := E.rt, bk := E.nx, ct := R, ex := E.ex }) items st E.nx →
        forLoop chk (fun x (st2 : Stt) R => ∃ e', tgS tg x st2.e = some e' ∧ wSs C body ⟨e', st2.h⟩ { nx := R, rt := E'.rt, bk := E'.nx, ct := R, ex := E'.ex }) items st E'.nx → AE E E' := by
      intro chk items
      induction items with
      | nil => exact fun st z z' => .nx _ z.2 z'.2
      | cons x xs ih =>
        intro st ⟨hk, e1, he, z⟩ ⟨hk', e2, he', z'⟩
        cases he.symm.trans he'
        rcases wSs_ag hC body z z' with ⟨st, y, y'⟩ | ⟨d, st, y, y'⟩ | ⟨st, y, y'⟩ | ⟨st, y, y'⟩ | ⟨c, fs, st, y, y'⟩
        · exact ih st y y'
        · exact .rt d st y y'
        · exact .nx st y y'
        · exact ih st y y'
        · exact .ex c fs st y y'
    exact key _ _ _ z z'
  | .whl t body, st, E, E', h, h' => by
    simp only [wS] at h h'
    obtain ⟨I, ⟨m, h0⟩, turn⟩ := h
    obtain ⟨I', ⟨m', h0'⟩, turn'⟩ := h'
    have key : ∀ m st m', I m st → I' m' st → AE E E' := by
      intro m
      induction m using Nat.strongRecOn with
      | _ m ih =>
        intro st m' i i'
        rcases wT_ag hC t (turn m st i) (turn' m' st i') with ⟨k, st1, z, z'⟩ | ⟨c, fs, st, z, z'⟩
        · split at z
          · rename_i hk
            rw [if_pos hk] at z'
            rcases wSs_ag hC body z z' with ⟨st, ⟨k, lt, y⟩, k', lt', y'⟩ | ⟨d, st, y, y'⟩ | ⟨st, y, y'⟩ | ⟨st, ⟨k, lt, y⟩, k', lt', y'⟩ | ⟨c, fs, st, y, y'⟩
            · exact ih k lt st k' y y'
            · exact .rt d st y y'
            · exact .nx st y y'
            · exact ih k lt st k' y y'
            · exact .ex c fs st y y'
          · rename_i hk; rw [if_neg hk] at z'; exact .nx _ z z'
        · exact .ex c fs st z z'
    exact key m st m' h0 h0'
  | .rais c es, _, _, _, h, h' => by
    rw [wS_rais] at h h'
    exact (wL_ag hC es h h').ae fun ds st z z' => .ex _ _ _ z.2 z'.2
  | .tryA body cs suites, _, _, _, h, h' => by
    rw [wS_try] at h h'
    rcases wSs_ag hC body h h' with ⟨st, y, y'⟩ | ⟨d, st, y, y'⟩ | ⟨st, y, y'⟩ | ⟨st, y, y'⟩ | ⟨c, fs, st, y, y'⟩
    · exact .nx st y y'
    · exact .rt d st y y'
    · exact .bk st y y'
    · exact .ct st y y'
    · exact wHs_ag hC cs suites y y'
  | .setF i x a, _, _, _, h, h' => by
    rw [wS_setF] at h h'
    refine (wE_ag hC a h h').ae fun d st ⟨k, c, fs, gs, z1, z2, z3⟩ ⟨k', c', fs', gs', z1', z2', z3'⟩ => ?_
    cases z1.symm.trans z1'
    cases z2.symm.trans z2'
    exact .nx _ z3 z3'
  | .par is es, _, _, _, h, h' => by
    rw [wS_par] at h h'
    refine (wL_ag hC es h h').ae fun ds st ⟨e, z1, z2⟩ ⟨e', z1', z2'⟩ => ?_
    cases z1.symm.trans z1'
    exact .nx _ z2 z2'
theorem wHs_ag {C : Calls} (hC : AgC C) : ∀ (cs : List (Nat × Nat)) (suites : List (List Sm)) {c : Nat} {fs : List D} {st : Stt} {E E' : EndD}, wHs C cs suites c fs st E → wHs C cs suites c fs st E' → AE E E'
  | [], [], _, _, _, _, _, h, h' => by rw [wHs_nil] at h h'; exact .ex _ _ _ h h'
  | [], _ :: _, _, _, _, _, _, h, h' => by simp only [wHs] at h h'; exact .ex _ _ _ h h'
  | _ :: _, [], _, _, _, _, _, h, h' => by simp only [wHs] at h h'; exact .ex _ _ _ h h'
  | (k, i) :: cs, s :: suites, _, _, _, _, _, h, h' => by
    rw [wHs_cons] at h h'
    split at h
    · rename_i hk
      rw [if_pos hk] at h'
      rcases wSs_ag hC s h h' with ⟨st, y, y'⟩ | ⟨d, st, y, y'⟩ | ⟨st, y, y'⟩ | ⟨st, y, y'⟩ | ⟨c, fs, st, y, y'⟩
      · exact .nx _ y.2 y'.2
      · exact .rt _ _ y.2 y'.2
      · exact .bk _ y.2 y'.2
      · exact .ct _ y.2 y'.2
      · exact y.elim
    · rename_i hk; rw [if_neg hk] at h'; exact wHs_ag hC cs suites h h'
theorem wSs_ag {C : Calls} (hC : AgC C) : ∀ (ss : List Sm) {st : Stt} {E E' : EndD}, wSs C ss st E → wSs C ss st E' → AE E E'
  | [], _, _, _, h, h' => by rw [wSs_nil] at h h'; exact .nx _ h h'
  | s :: ss, _, E, E', h, h' => by
    rw [wSs_cons] at h h'
    rcases wS_ag hC s h h' with ⟨st, y, y'⟩ | ⟨d, st, y, y'⟩ | ⟨st, y, y'⟩ | ⟨st, y, y'⟩ | ⟨c, fs, st, y, y'⟩
    · exact wSs_ag hC ss y y'
    · exact .rt d st y y'
    · exact .bk st y y'
    · exact .ct st y y'
    · exact .ex c fs st y y'
end
theorem CC_ag {P : Nat → Option Fn} : ∀ n, AgC (CC P n)
  | 0 => fun f ds h Q Q' X X' z _ => by simp only [CC] at z
  | n + 1 => fun f ds h Q Q' X X' z z' => by
    cases e : P f with
    | none => simp only [CC, e] at z
    | some fn =>
      simp only [CC, e] at z z'
      rcases wSs_ag (CC_ag n) fn.body z.2 z'.2 with ⟨st, y, y'⟩ | ⟨d, st, y, y'⟩ | ⟨st, y, y'⟩ | ⟨st, y, y'⟩ | ⟨c, fs, st, y, y'⟩
      · exact .inl ⟨_, _, y, y'⟩
      · exact .inl ⟨_, _, y, y'⟩
      · exact y.elim
      · exact y.elim
      · exact .inr ⟨c, fs, _, y, y'⟩
/-- what a call gives, as an equation -/
theorem CC_det {P : Nat → Option Fn} {n f : Nat} {ds : List D} {h h' : List CO} {d : D} (H : ∀ (Q : D → List CO → Prop) (X : Nat → List D → List CO → Prop), Q d h' → CC P n f ds h Q X) (Q : D → List CO → Prop) (X : Nat → List D → List CO → Prop) : CC P n f ds h Q X = Q d h' := by
  refine propext ⟨fun z => ?_, H Q X⟩
  rcases CC_ag n f ds h _ _ (fun _ _ _ => False) X (H (fun d1 h1 => d1 = d ∧ h1 = h') _ ⟨rfl, rfl⟩) z with ⟨d1, h1, ⟨rfl, rfl⟩, q⟩ | ⟨_, _, _, y, _⟩
  · exact q
  · exact y.elim
theorem CC_detX {P : Nat → Option Fn} {n f : Nat} {ds : List D} {h h' : List CO} {c : Nat} {fs : List D} (H : ∀ (Q : D → List CO → Prop) (X : Nat → List D → List CO → Prop), X c fs h' → CC P n f ds h Q X) (Q : D → List CO → Prop) (X : Nat → List D → List CO → Prop) : CC P n f ds h Q X = X c fs h' := by
  refine propext ⟨fun z => ?_, H Q X⟩
  rcases CC_ag n f ds h (fun _ _ => False) Q _ X (H _ (fun c1 fs1 h1 => c1 = c ∧ fs1 = fs ∧ h1 = h') ⟨rfl, rfl, rfl⟩) z with ⟨_, _, y, _⟩ | ⟨c1, fs1, h1, ⟨rfl, rfl, rfl⟩, q⟩
  · exact y.elim
  · exact q
end Mp
/-! simp, from the front: what comes behind is looked at only when its value is there -/
namespace Mp
open PySem PySem.Spec L2
/-- bears a term that simp is to leave alone -/
structure Hd {α : Type} (k : α) : Type where
def bindO {α : Type} (o : Option α) (K : α → Prop) (u : Hd K) : Prop := ∃ a, o = some a ∧ K a
@[simp] theorem bindO_some {α : Type} {a : α} {K : α → Prop} {u : Hd K} : bindO (some a) K u = K a := propext ⟨fun ⟨_, e, z⟩ => by cases e; exact z, fun z => ⟨_, rfl, z⟩⟩
@[simp] theorem bindO_none {α : Type} {K : α → Prop} {u : Hd K} : bindO none K u = False := propext ⟨fun ⟨_, e, _⟩ => (by cases e), False.elim⟩
def bindBl (d : D) (K : Bool → Prop) (u : Hd K) : Prop := ∃ k, d = .bl k ∧ K k
@[simp] theorem bindBl_bl {k : Bool} {K : Bool → Prop} {u : Hd K} : bindBl (.bl k) K u = K k := propext ⟨fun ⟨_, e, z⟩ => by cases e; exact z, fun z => ⟨_, rfl, z⟩⟩
def intK (d : D) (K : Int → Prop) (u : Hd K) : Prop := match d with
  | .int i => K i
  | _ => False
@[simp] theorem intK_int {i : Int} {K : Int → Prop} {u : Hd K} : intK (.int i) K u = K i := rfl
def lstK (d : D) (K : List D → Prop) (u : Hd K) : Prop := match d with
  | .lst ds => K ds
  | _ => False
@[simp] theorem lstK_lst {ds : List D} {K : List D → Prop} {u : Hd K} : lstK (.lst ds) K u = K ds := rfl
def slV (x : Option Sl) (K J : D → Prop) (u : Hd K) (v : Hd J) : Prop := match x with
  | some (.shr d) => K d
  | some (.own d) => J d
  | _ => False
@[simp] theorem slV_shr {d : D} {K J : D → Prop} {u : Hd K} {v : Hd J} : slV (some (.shr d)) K J u v = K d := rfl
@[simp] theorem slV_own {d : D} {K J : D → Prop} {u : Hd K} {v : Hd J} : slV (some (.own d)) K J u v = J d := rfl
def slO (x : Option Sl) : Option D := match x with
  | some (.own d) => some d
  | _ => none
@[simp] theorem slO_own {d : D} : slO (some (.own d)) = some d := rfl
def slL (x : Option Sl) : Option (List D) := match x with
  | some (.own (.lst ds)) => some ds
  | _ => none
@[simp] theorem slL_own {ds : List D} : slL (some (.own (.lst ds))) = some ds := rfl
def slR (x : Option Sl) : Option D := match x with
  | some (.shr d) => some d
  | some (.own d) => some d
  | _ => none
@[simp] theorem slR_shr {d : D} : slR (some (.shr d)) = some d := rfl
@[simp] theorem slR_own {d : D} : slR (some (.own d)) = some d := rfl
@[simp] theorem rdS_eq {e : List Sl} {i : Nat} : rdS e i = slR e[i]? := rfl
def lsC (o : Option CO) : Option (List D) := match o with
  | some (.lst ds) => some ds
  | _ => none
@[simp] theorem lsC_lst {ds : List D} : lsC (some (.lst ds)) = some ds := rfl
def lsA (x : Option Sl) (h : List CO) : Option (List D) := match x with
  | some (.own (.lst ds)) => some ds
  | some (.shr (.cell l)) => lsC h[l]?
  | _ => none
@[simp] theorem lsA_own {ds : List D} {h : List CO} : lsA (some (.own (.lst ds))) h = some ds := rfl
@[simp] theorem lsA_cell {l : Nat} {h : List CO} : lsA (some (.shr (.cell l))) h = lsC h[l]? := rfl
@[simp] theorem lstAt_eq {st : Stt} {i : Nat} : lstAt st i = lsA st.e[i]? st.h := by
  unfold lstAt lsA lsC
  rfl
def ptA (x : Option Sl) (st : Stt) (i : Nat) (ds : List D) : Stt := match x with
  | some (.own _) => ⟨st.e.set i (.own (.lst ds)), st.h⟩
  | some (.shr (.cell l)) => ⟨st.e, st.h.set l (.lst ds)⟩
  | _ => st
@[simp] theorem ptA_own {d : D} {st : Stt} {i : Nat} {ds : List D} : ptA (some (.own d)) st i ds = ⟨st.e.set i (.own (.lst ds)), st.h⟩ := rfl
@[simp] theorem ptA_cell {l : Nat} {st : Stt} {i : Nat} {ds : List D} : ptA (some (.shr (.cell l))) st i ds = ⟨st.e, st.h.set l (.lst ds)⟩ := rfl
@[simp] theorem putAt_eq {st : Stt} {i : Nat} {ds : List D} : putAt st i ds = ptA st.e[i]? st i ds := rfl
def celB (d : D) (st : Stt) (Q : PD) (u : Hd Q) : Prop := match d with
  | .lst ds => Q (.cell st.h.length) ⟨st.e, st.h ++ [.lst ds]⟩
  | .dic ks vs => Q (.cell st.h.length) ⟨st.e, st.h ++ [.dic ks vs]⟩
  | d => scalD d = true ∧ Q d st
section
variable {st : Stt} {Q : PD} {u : Hd Q}
@[simp] theorem celB_lst {ds : List D} : celB (.lst ds) st Q u = Q (.cell st.h.length) ⟨st.e, st.h ++ [.lst ds]⟩ := rfl
@[simp] theorem celB_dic {ks vs : List D} : celB (.dic ks vs) st Q u = Q (.cell st.h.length) ⟨st.e, st.h ++ [.dic ks vs]⟩ := rfl
@[simp] theorem celB_non : celB .non st Q u = Q .non st := by unfold celB; simp [scalD]
@[simp] theorem celB_int {i : Int} : celB (.int i) st Q u = Q (.int i) st := by unfold celB; simp [scalD]
@[simp] theorem celB_bl {i : Bool} : celB (.bl i) st Q u = Q (.bl i) st := by unfold celB; simp [scalD]
@[simp] theorem celB_str {i : Str} : celB (.str i) st Q u = Q (.str i) st := by unfold celB; simp [scalD]
end
@[simp] theorem ownS_lst {ds : List D} : ownS (.lst ds) = .own (.lst ds) := rfl
@[simp] theorem ownS_dic {ks vs : List D} : ownS (.dic ks vs) = .own (.dic ks vs) := rfl
@[simp] theorem ownS_non : ownS .non = .shr .non := rfl
@[simp] theorem ownS_int {i : Int} : ownS (.int i) = .shr (.int i) := rfl
@[simp] theorem ownS_bl {i : Bool} : ownS (.bl i) = .shr (.bl i) := rfl
@[simp] theorem ownS_str {i : Str} : ownS (.str i) = .shr (.str i) := rfl
@[simp] theorem scalD_non : scalD .non = true := rfl
@[simp] theorem scalD_int {i : Int} : scalD (.int i) = true := rfl
@[simp] theorem scalD_bl {i : Bool} : scalD (.bl i) = true := rfl
@[simp] theorem scalD_str {i : Str} : scalD (.str i) = true := rfl
/-- a caught exception's field; its class -/
def xfK (x : Option Sl) (f : Str) : Option D := match x with
  | some (.exc c fs) => (fldIx c f).bind fun k => fs[k]?
  | _ => none
@[simp] theorem xfK_exc {c : Nat} {fs : List D} {f : Str} : xfK (some (.exc c fs)) f = (fldIx c f).bind fun k => fs[k]? := rfl
def xiK (x : Option Sl) (k : Nat) : Option Bool := match x with
  | some (.exc c _) => some (excSub c k)
  | _ => none
@[simp] theorem xiK_exc {c k : Nat} {fs : List D} : xiK (some (.exc c fs)) k = some (excSub c k) := rfl
@[simp] theorem noX_nil : noX [] = true := rfl
@[simp] theorem noX_un {e : List Sl} : noX (.un :: e) = noX e := rfl
@[simp] theorem noX_shr {d : D} {e : List Sl} : noX (.shr d :: e) = noX e := rfl
@[simp] theorem noX_own {d : D} {e : List Sl} : noX (.own d :: e) = noX e := rfl
@[simp] theorem setSs_nil {e : List Sl} : setSs [] [] e = some e := rfl
@[simp] theorem setSs_cons {i : Nat} {is : List Nat} {d : D} {ds : List D} {e : List Sl} : setSs (i :: is) (d :: ds) e = setSs is ds (e.set i (.shr d)) := rfl
@[simp] theorem tgS_tp {ts : List Tg} {ds : List D} {e : List Sl} : tgS (.tp ts) (.tup ds) e = tgSs ts ds e := by simp only [tgS]
@[simp] theorem tgS_tpL {ts : List Tg} {ds : List D} {e : List Sl} : tgS (.tp ts) (.lst ds) e = tgSs ts ds e := by simp only [tgS]
@[simp] theorem tgSs_nil {e : List Sl} : tgSs [] [] e = some e := by simp only [tgSs]
@[simp] theorem tgSs_nm {i : Nat} {ts : List Tg} {d : D} {ds : List D} {e : List Sl} : tgSs (.nm i :: ts) (d :: ds) e = tgSs ts ds (e.set i (.shr d)) := by simp only [tgSs, tgS]
@[simp] theorem tgSs_tp {us ts : List Tg} {d ds : List D} {e : List Sl} : tgSs (.tp us :: ts) (.tup d :: ds) e = (tgSs us d e).bind (tgSs ts ds) := by
  simp only [tgSs, tgS]
  cases tgSs us d e <;> rfl
@[simp] theorem same_lst {ds : List D} {h : List CO} : same [.lst ds] h = fun _ => True := by funext st; simp [same]
@[simp] theorem same_tup {ds : List D} {h : List CO} : same [.tup ds] h = fun _ => True := by funext st; simp [same]
@[simp] theorem same_scr {ds : List D} {h : List CO} : same [.scr ds] h = fun _ => True := by funext st; simp [same]
@[simp] theorem same_int {i : Int} {h : List CO} : same [.int i] h = fun _ => True := by funext st; simp [same]
@[simp] theorem same_int2 {i j : Int} {h : List CO} : same [.int i, .int j] h = fun _ => True := by funext st; simp [same]
@[simp] theorem same_tt {a b : List D} {h : List CO} : same [.tup a, .tup b] h = fun _ => True := by funext st; simp [same]
@[simp] theorem same_ll {a b : List D} {h : List CO} : same [.lst a, .lst b] h = fun _ => True := by funext st; simp [same]
@[simp] theorem same_lt {a b : List D} {h : List CO} : same [.lst a, .tup b] h = fun _ => True := by funext st; simp [same]
@[simp] theorem same_tl {a b : List D} {h : List CO} : same [.tup a, .lst b] h = fun _ => True := by funext st; simp [same]
theorem same_ok {d : D} {h : List CO} (e : tyOk d = true) : same [d] h = fun _ => True := by funext st; simp [same, view_ok e]
def opB (o : Op) (ds : List D) (Q : D → Prop) (u : Hd Q) : Prop := opW o ds Q
def callB (C : Calls) (f : Nat) (ds : List D) (h : List CO) (Q : D → List CO → Prop) (X : Nat → List D → List CO → Prop) (u : Hd C) (v : Hd Q) (w : Hd X) : Prop := C f ds h Q X
theorem callB_of {C : Calls} {f : Nat} {ds : List D} {h : List CO} {Q : D → List CO → Prop} {X : Nat → List D → List CO → Prop} {u : Hd C} {v : Hd Q} {w : Hd X} (z : C f ds h Q X) : callB C f ds h Q X u v w := z
/-- c(..): an object is made -/
def makeB (C : Calls) (c : Nat) (fz : Bool) (f : Nat) (ds : List D) (st1 : Stt) (Q : PD) (X : PX) (u : Hd C) (v : Hd Q) (w : Hd X) : Prop := C f ds (st1.h ++ [.obj c []])
      (fun d h => d = .non ∧ if fz = true then ∃ fs, h = st1.h ++ [.obj c fs] ∧ cellsLts st1.h.length fs = true ∧ Q (.obj c fs) st1 else Q (.cell st1.h.length) ⟨st1.e, h⟩)
      (fun k fs h => if fz = true then (∃ gs, h = st1.h ++ [.obj c gs]) ∧ cellsLts st1.h.length fs = true ∧ X k fs st1 else X k fs ⟨st1.e, h⟩)
def forB (chk : Stt → Prop) (turn : D → Stt → (Stt → Prop) → Prop) (items : List D) (st : Stt) (Q : Stt → Prop) (u : Hd turn) (v : Hd Q) : Prop := forLoop chk turn items st Q
def lcB (chk : Stt → Prop) (turn : D → Stt → (List D → Stt → Prop) → Prop) (items : List D) (st : Stt) (Q : List D → Stt → Prop) (u : Hd turn) (v : Hd Q) : Prop := lcLoop chk turn items [] st Q
section
variable {C : Calls} {st : Stt} {Q : PD} {X : PX} {QA : List D → Stt → Prop} {QT : Bool → Stt → Prop} {E : EndD}
@[simp ↓] theorem z_con {d : D} : wE C (.con d) st Q X = Q d st := wE_con
@[simp ↓] theorem z_var {i : Nat} : wE C (.var i) st Q X = slV st.e[i]? (fun d => Q d st) (fun d => Q d ⟨st.e.set i (.shr d), st.h⟩) ⟨⟩ ⟨⟩ := by
  rw [wE_var]; cases st.e[i]? with
  | none => rfl
  | some x => cases x <;> rfl
@[simp ↓] theorem z_mov {i : Nat} : wE C (.mov i) st Q X = slV st.e[i]? (fun d => scalD d = true ∧ Q d st) (fun d => Q d ⟨st.e.set i .un, st.h⟩) ⟨⟩ ⟨⟩ := by
  rw [wE_mov]; cases st.e[i]? with
  | none => rfl
  | some x => cases x <;> rfl
@[simp ↓] theorem z_op {o : Op} {es : List Ex} : wE C (.op o es) st Q X = wA C es st (fun ds st1 => opB o (ds.map (view st1.h)) (fun d => Q d st1) ⟨⟩) X := wE_op
@[simp ↓] theorem z_tup {es : List Ex} : wE C (.tup es) st Q X = wL C es st (fun ds st1 => ds.length ≤ 1000 ∧ Q (.tup ds) st1) X := wE_tup
@[simp ↓] theorem z_lst {es : List Ex} : wE C (.lst es) st Q X = wL C es st (fun ds st1 => ds.length ≤ 1000 ∧ Q (.lst ds) st1) X := wE_lst
@[simp ↓] theorem z_disp {tp : Bool} {fl : List Bool} {es : List Ex} : wE C (.disp tp fl es) st Q X = wD C fl es st (fun ds st1 => ds.length ≤ sizeLine ∧ Q (if tp = true then .tup ds else .lst ds) st1) X := wE_disp
@[simp ↓] theorem z_fst {es : List Ex} : wE C (.fst es) st Q X = wF C es Str.empty st (fun x st1 => Q (.str x) st1) X := wE_fst
@[simp ↓] theorem z_Dnil : wD C [] [] st QA X = QA [] st := wD_nil
@[simp ↓] theorem z_Dstar {fl : List Bool} {e : Ex} {es : List Ex} : wD C (true :: fl) (e :: es) st QA X = wE C e st (fun d st1 => bindO (seqD (view st1.h d)) (fun xs => wD C fl es st1 (fun ds st2 => QA (xs ++ ds) st2) X) ⟨⟩) X := wD_star
@[simp ↓] theorem z_Dcons {fl : List Bool} {e : Ex} {es : List Ex} : wD C (false :: fl) (e :: es) st QA X = wE C e st (fun d st1 => wD C fl es st1 (fun ds st2 => QA (d :: ds) st2) X) X := wD_cons
@[simp ↓] theorem z_Fnil {acc : Str} {QF : Str → Stt → Prop} : wF C [] acc st QF X = QF acc st := wF_nil
@[simp ↓] theorem z_Fcons {acc : Str} {QF : Str → Stt → Prop} {e : Ex} {es : List Ex} : wF C (e :: es) acc st QF X = wE C e st (fun d st1 => bindO (fmtD d) (fun y => (acc ++ y).length ≤ sizeLine ∧ wF C es (acc ++ y) st1 QF X) ⟨⟩) X := wF_cons
@[simp ↓] theorem z_Adisp {tp : Bool} {fl : List Bool} {l es : List Ex} : wA C (.disp tp fl l :: es) st QA X = wE C (.disp tp fl l) st (fun d st1 => wA C es st1 (fun ds st2 => QA (d :: ds) st2) X) X := wA_cons rfl
@[simp ↓] theorem z_Afst {l es : List Ex} : wA C (.fst l :: es) st QA X = wE C (.fst l) st (fun d st1 => wA C es st1 (fun ds st2 => QA (d :: ds) st2) X) X := wA_cons rfl
@[simp ↓] theorem z_andV {a b : Ex} : wE C (.andV a b) st Q X = wE C a st (fun d st1 => bindO (truD (view st1.h d)) (fun k => if k = true then wE C b st1 Q X else Q d st1) ⟨⟩) X := wE_andV
@[simp ↓] theorem z_orV {a b : Ex} : wE C (.orV a b) st Q X = wE C a st (fun d st1 => bindO (truD (view st1.h d)) (fun k => if k = true then Q d st1 else wE C b st1 Q X) ⟨⟩) X := wE_orV
@[simp ↓] theorem z_notV {a : Ex} : wE C (.notV a) st Q X = wE C a st (fun d st1 => bindO (truD (view st1.h d)) (fun k => Q (.bl (!k)) st1) ⟨⟩) X := wE_notV
@[simp ↓] theorem z_ite {t a b : Ex} : wE C (.ite t a b) st Q X = wT C t st (fun k st1 => if k = true then wE C a st1 Q X else wE C b st1 Q X) X := wE_ite
@[simp ↓] theorem z_chn {p q : Op} {a b c : Ex} : wE C (.chn p q a b c) st Q X = wE C a st (fun x st1 => wE C b st1 (fun y st2 => opB p [view st2.h x, view st2.h y] (fun r => bindBl r (fun k =>
      if k = true then wE C c st2 (fun z st3 => opB q [view st3.h y, view st3.h z] (fun r => Q r st3) ⟨⟩) X else Q (.bl false) st2) ⟨⟩) ⟨⟩) X) X := wE_chn
@[simp ↓] theorem z_call {f : Nat} {es : List Ex} {ar : List (Sum Nat D)} : wE C (.call f es ar) st Q X = wL C es st (fun ds st1 => callB C f (arr ar ds) st1.h (fun d h => Q d ⟨st1.e, h⟩) (fun c fs h => X c fs ⟨st1.e, h⟩) ⟨⟩ ⟨⟩ ⟨⟩) X := wE_call
@[simp ↓] theorem z_dct0 : wE C (.dct [] []) st Q X = Q (.dic [] []) st := wE_dct0
@[simp ↓] theorem z_dct1 {k v : Ex} : wE C (.dct [k] [v]) st Q X = wE C k st (fun a st1 => wE C v st1 (fun b st2 => keyD a = true ∧ Q (.dic [a] [b]) st2) X) X := wE_dct1
@[simp ↓] theorem z_cel {a : Ex} : wE C (.cel a) st Q X = wE C a st (fun d st1 => celB d st1 Q ⟨⟩) X := by
  rw [wE_cel]; rfl
@[simp ↓] theorem z_xfl {i : Nat} {x : Str} : wE C (.xfl i x) st Q X = bindO (xfK st.e[i]? x) (fun d => Q d st) ⟨⟩ := by
  rw [wE_xfl]; cases st.e[i]? with
  | none => exact bindO_none.symm
  | some y => cases y with
    | exc c fs =>
      unfold bindO
      show (∃ k d, _) = ∃ d, (fldIx c x).bind (fun k => fs[k]?) = some d ∧ _
      cases fldIx c x <;> simp
    | _ => exact bindO_none.symm
@[simp ↓] theorem z_xis {i k : Nat} : wE C (.xis i k) st Q X = bindO (xiK st.e[i]? k) (fun b => Q (.bl b) st) ⟨⟩ := by
  rw [wE_xis]; cases st.e[i]? with
  | none => exact bindO_none.symm
  | some y => cases y with
    | exc c fs => exact (bindO_some (a := excSub c k) (K := fun b => Q (.bl b) st)).symm
    | _ => exact bindO_none.symm
@[simp ↓] theorem z_make {c f : Nat} {fz : Bool} {es : List Ex} {ar : List (Sum Nat D)} : wE C (.make c fz f es ar) st Q X = wL C es st (fun ds st1 => makeB C c fz f (arr ar (.cell st1.h.length :: ds)) st1 Q X ⟨⟩ ⟨⟩ ⟨⟩) X := wE_make
@[simp ↓] theorem z_meth {k : MK} {c f : Nat} {r : Ex} {es : List Ex} {ar : List (Sum Nat D)} : wE C (.meth k c f (r :: es) ar) st Q X = wE C r st (fun d st1 => (isIn k = false → isObj c (view st1.h d) = true) ∧ wL C es st1 (fun ds st2 => (isIn k = true → isObj c (view st2.h (ds.getD 0 .non)) = true) ∧ (isEqM k = true → isObj c (view st2.h d) = true ∧ eqR c (view st2.h (ds.getD 0 .non)) = true) ∧
      callB C f (arr ar (d :: ds)) st2.h (fun d h => methQ k d fun r => Q r ⟨st2.e, h⟩) (fun c fs h => isProp k = false ∧ X c fs ⟨st2.e, h⟩) ⟨⟩ ⟨⟩ ⟨⟩) X) X := wE_meth
@[simp ↓] theorem z_pop {i : Nat} {a : Ex} : wE C (.pop i a) st Q X = bindO (slL st.e[i]?) (fun _ => wE C a st (fun d st1 => intK d (fun k => bindO (slL st1.e[i]?) (fun ds => ds.length ≤ sizeLine ∧ bindO (popAt ds k) (fun p => Q p.1 ⟨st1.e.set i (.own (.lst p.2)), st1.h⟩) ⟨⟩) ⟨⟩) ⟨⟩) X) ⟨⟩ := by
  rw [wE_pop]
  have e1 : ∀ x : Option Sl, (∃ ds, x = some (.own (.lst ds))) = ∃ ds, slL x = some ds := fun x => by
    cases x with
    | none => simp [slL]
    | some x => cases x with
      | own d => cases d <;> simp [slL]
      | _ => simp [slL]
  have e2 : (fun (d : D) (st1 : Stt) => (match d, st1.e[i]? with
    | .int k, some (.own (.lst ds)) => ds.length ≤ sizeLine ∧ ∃ x r, popAt ds k = some (x, r) ∧ Q x ⟨st1.e.set i (.own (.lst r)), st1.h⟩
    | _, _ => False)) = fun d st1 => intK d (fun k => bindO (slL st1.e[i]?) (fun ds => ds.length ≤ sizeLine ∧ bindO (popAt ds k) (fun p => Q p.1 ⟨st1.e.set i (.own (.lst p.2)), st1.h⟩) ⟨⟩) ⟨⟩) ⟨⟩ := by
    funext d st1
    cases d with
    | int k =>
      rw [intK_int]
      cases st1.e[i]? with
      | none => exact bindO_none.symm
      | some x => cases x with
        | own d => cases d with
          | lst ds =>
            rw [slL_own, bindO_some]
            unfold bindO
            simp only [Prod.exists]
          | _ => exact bindO_none.symm
        | _ => exact bindO_none.symm
    | _ => rfl
  rw [e1]
  have e3 := congrArg (fun z => (∃ ds, slL st.e[i]? = some ds) ∧ wE C a st z X) e2
  refine e3.trans ?_
  show _ = ∃ a_1, slL st.e[i]? = some a_1 ∧ wE C a st _ X
  rw [exists_and_right]
@[simp ↓] theorem z_lc {k : ItK} {src : List Ex} {tg : Tg} {ifs : List Ex} {elt : Ex} {own : List Nat} : wE C (.lc k src tg ifs elt own) st Q X = wL C src st (fun ds st1 => bindO (itD k (ds.map (view st1.h))) (fun items => items.length ≤ sizeLine ∧
      lcB (same ds st1.h) (fun x st2 R => ∃ e', tgS tg x st2.e = some e' ∧ wTs C ifs ⟨e', st2.h⟩ (fun b st3 => if b = true then wE C elt st3 (fun y st4 => R [y] ⟨hide st4.e own, st4.h⟩) (fun _ _ _ => False) else R [] ⟨hide st3.e own, st3.h⟩) (fun _ _ _ => False))
        items ⟨hide st1.e own, st1.h⟩ (fun out st5 => Q (.lst out) ⟨unhide st1.e st5.e own, st5.h⟩) ⟨⟩ ⟨⟩) ⟨⟩) X := wE_lc
@[simp ↓] theorem z_Anil : wA C [] st QA X = QA [] st := wA_nil
@[simp ↓] theorem z_Abrw {i : Nat} {es : List Ex} : wA C (.brw i :: es) st QA X = bindO (rdS st.e i) (fun _ => wA C es st (fun ds st2 => bindO (rdS st2.e i) (fun d => QA (d :: ds) st2) ⟨⟩) X) ⟨⟩ := by
  rw [wA_brw, Option.isSome_iff_exists]
  show _ = ∃ a_1, rdS st.e i = some a_1 ∧ _
  rw [exists_and_right]
  rfl
@[simp ↓] theorem z_Acon {d : D} {es : List Ex} : wA C (.con d :: es) st QA X = wA C es st (fun ds st2 => QA (d :: ds) st2) X := wA_con
@[simp ↓] theorem z_Aop {o : Op} {l es : List Ex} : wA C (.op o l :: es) st QA X = wE C (.op o l) st (fun d st1 => wA C es st1 (fun ds st2 => QA (d :: ds) st2) X) X := wA_cons rfl
@[simp ↓] theorem z_Atup {l es : List Ex} : wA C (.tup l :: es) st QA X = wE C (.tup l) st (fun d st1 => wA C es st1 (fun ds st2 => QA (d :: ds) st2) X) X := wA_cons rfl
@[simp ↓] theorem z_Alst {l es : List Ex} : wA C (.lst l :: es) st QA X = wE C (.lst l) st (fun d st1 => wA C es st1 (fun ds st2 => QA (d :: ds) st2) X) X := wA_cons rfl
@[simp ↓] theorem z_Acall {f : Nat} {l es : List Ex} {ar : List (Sum Nat D)} : wA C (.call f l ar :: es) st QA X = wE C (.call f l ar) st (fun d st1 => wA C es st1 (fun ds st2 => QA (d :: ds) st2) X) X := wA_cons rfl
@[simp ↓] theorem z_AandV {a b : Ex} {es : List Ex} : wA C (.andV a b :: es) st QA X = wE C (.andV a b) st (fun d st1 => wA C es st1 (fun ds st2 => QA (d :: ds) st2) X) X := wA_cons rfl
@[simp ↓] theorem z_AorV {a b : Ex} {es : List Ex} : wA C (.orV a b :: es) st QA X = wE C (.orV a b) st (fun d st1 => wA C es st1 (fun ds st2 => QA (d :: ds) st2) X) X := wA_cons rfl
@[simp ↓] theorem z_AnotV {a : Ex} {es : List Ex} : wA C (.notV a :: es) st QA X = wE C (.notV a) st (fun d st1 => wA C es st1 (fun ds st2 => QA (d :: ds) st2) X) X := wA_cons rfl
@[simp ↓] theorem z_Aite {t a b : Ex} {es : List Ex} : wA C (.ite t a b :: es) st QA X = wE C (.ite t a b) st (fun d st1 => wA C es st1 (fun ds st2 => QA (d :: ds) st2) X) X := wA_cons rfl
@[simp ↓] theorem z_Achn {p q : Op} {a b c : Ex} {es : List Ex} : wA C (.chn p q a b c :: es) st QA X = wE C (.chn p q a b c) st (fun d st1 => wA C es st1 (fun ds st2 => QA (d :: ds) st2) X) X := wA_cons rfl
@[simp ↓] theorem z_Alc {k : ItK} {src : List Ex} {tg : Tg} {ifs : List Ex} {elt : Ex} {own : List Nat} {es : List Ex} : wA C (.lc k src tg ifs elt own :: es) st QA X = wE C (.lc k src tg ifs elt own) st (fun d st1 => wA C es st1 (fun ds st2 => QA (d :: ds) st2) X) X := wA_cons rfl
@[simp ↓] theorem z_Axfl {i : Nat} {x : Str} {es : List Ex} : wA C (.xfl i x :: es) st QA X = wE C (.xfl i x) st (fun d st1 => wA C es st1 (fun ds st2 => QA (d :: ds) st2) X) X := wA_cons rfl
@[simp ↓] theorem z_Axis {i k : Nat} {es : List Ex} : wA C (.xis i k :: es) st QA X = wE C (.xis i k) st (fun d st1 => wA C es st1 (fun ds st2 => QA (d :: ds) st2) X) X := wA_cons rfl
@[simp ↓] theorem z_Acel {a : Ex} {es : List Ex} : wA C (.cel a :: es) st QA X = wE C (.cel a) st (fun d st1 => wA C es st1 (fun ds st2 => QA (d :: ds) st2) X) X := wA_cons rfl
@[simp ↓] theorem z_Avar {i : Nat} {es : List Ex} : wA C (.var i :: es) st QA X = wE C (.var i) st (fun d st1 => wA C es st1 (fun ds st2 => QA (d :: ds) st2) X) X := wA_cons rfl
@[simp ↓] theorem z_Adct {ks vs es : List Ex} : wA C (.dct ks vs :: es) st QA X = wE C (.dct ks vs) st (fun d st1 => wA C es st1 (fun ds st2 => QA (d :: ds) st2) X) X := wA_cons rfl
@[simp ↓] theorem z_Apop {i : Nat} {a : Ex} {es : List Ex} : wA C (.pop i a :: es) st QA X = wE C (.pop i a) st (fun d st1 => wA C es st1 (fun ds st2 => QA (d :: ds) st2) X) X := wA_cons rfl
@[simp ↓] theorem z_Amake {c f : Nat} {fz : Bool} {l : List Ex} {ar : List (Sum Nat D)} {es : List Ex} : wA C (.make c fz f l ar :: es) st QA X = wE C (.make c fz f l ar) st (fun d st1 => wA C es st1 (fun ds st2 => QA (d :: ds) st2) X) X := wA_cons rfl
@[simp ↓] theorem z_Ameth {k : MK} {c f : Nat} {l : List Ex} {ar : List (Sum Nat D)} {es : List Ex} : wA C (.meth k c f l ar :: es) st QA X = wE C (.meth k c f l ar) st (fun d st1 => wA C es st1 (fun ds st2 => QA (d :: ds) st2) X) X := wA_cons rfl
@[simp ↓] theorem z_Lnil : wL C [] st QA X = QA [] st := wL_nil
@[simp ↓] theorem z_Lcons {e : Ex} {es : List Ex} : wL C (e :: es) st QA X = wE C e st (fun d st1 => wL C es st1 (fun ds st2 => QA (d :: ds) st2) X) X := wL_cons
@[simp ↓] theorem z_Tand {a b : Ex} : wT C (.tAnd a b) st QT X = wT C a st (fun k st1 => if k = true then wT C b st1 QT X else QT false st1) X := wT_and
@[simp ↓] theorem z_Tor {a b : Ex} : wT C (.tOr a b) st QT X = wT C a st (fun k st1 => if k = true then QT true st1 else wT C b st1 QT X) X := wT_or
@[simp ↓] theorem z_Tnot {a : Ex} : wT C (.tNot a) st QT X = wT C a st (fun k st1 => QT (!k) st1) X := wT_not
@[simp ↓] theorem z_Ttru {a : Ex} : wT C (.tru a) st QT X = wE C a st (fun d st1 => bindO (truD (view st1.h d)) (fun k => QT k st1) ⟨⟩) X := wT_tru
@[simp ↓] theorem z_Ttb {a : Ex} : wT C (.tb a) st QT X = wE C a st (fun d st1 => bindBl d (fun k => QT k st1) ⟨⟩) X := wT_tb
@[simp ↓] theorem z_Tsnil : wTs C [] st QT X = QT true st := wTs_nil
@[simp ↓] theorem z_Tscons {t : Ex} {ts : List Ex} : wTs C (t :: ts) st QT X = wT C t st (fun k st1 => if k = true then wTs C ts st1 QT X else QT false st1) X := wTs_cons
@[simp ↓] theorem z_pass : wS C .pass st E = E.nx st := wS_pass
@[simp ↓] theorem z_brk : wS C .brk st E = E.bk st := wS_brk
@[simp ↓] theorem z_cnt : wS C .cnt st E = E.ct st := wS_cnt
@[simp ↓] theorem z_ret {a : Ex} : wS C (.ret a) st E = wE C a st E.rt E.ex := wS_ret
@[simp ↓] theorem z_exp {a : Ex} : wS C (.exp a) st E = wE C a st (fun _ st1 => E.nx st1) E.ex := wS_exp
@[simp ↓] theorem z_asg {tg : Tg} {a : Ex} : wS C (.asg tg a) st E = wE C a st (fun d st1 => bindO (tgS tg d st1.e) (fun e' => E.nx ⟨e', st1.h⟩) ⟨⟩) E.ex := wS_asg
@[simp ↓] theorem z_asgO {i : Nat} {a : Ex} : wS C (.asgO i a) st E = wE C a st (fun d st1 => E.nx ⟨st1.e.set i (ownS d), st1.h⟩) E.ex := wS_asgO
@[simp ↓] theorem z_setI {i : Nat} {k a : Ex} : wS C (.setI i k a) st E = wE C a st (fun d st1 => bindO (rdS st1.e i) (fun _ => wE C k st1 (fun z st2 => intK z (fun j => bindO (lstAt st2 i) (fun ds => bindO (ixN ds.length j) (fun m => E.nx (putAt st2 i (ds.set m d))) ⟨⟩) ⟨⟩) ⟨⟩) E.ex) ⟨⟩) E.ex := by
  rw [wS_setI]
  congr 1
  funext d st1
  rw [Option.isSome_iff_exists]
  have e : (fun z (st2 : Stt) => (match z with
    | .int j => ∃ ds m, lstAt st2 i = some ds ∧ ixN ds.length j = some m ∧ E.nx (putAt st2 i (ds.set m d))
    | _ => False)) = fun z st2 => intK z (fun j => bindO (lstAt st2 i) (fun ds => bindO (ixN ds.length j) (fun m => E.nx (putAt st2 i (ds.set m d))) ⟨⟩) ⟨⟩) ⟨⟩ := by
    funext z st2
    cases z with
    | int j =>
      rw [intK_int]
      unfold bindO
      simp
    | _ => rfl
  have e3 := congrArg (fun z => (∃ a, rdS st1.e i = some a) ∧ wE C k st1 z E.ex) e
  refine e3.trans ?_
  show _ = ∃ a_1, rdS st1.e i = some a_1 ∧ _
  rw [exists_and_right]
@[simp ↓] theorem z_app {i : Nat} {a : Ex} : wS C (.app i a) st E = bindO (lstAt st i) (fun _ => wE C a st (fun d st1 => bindO (lstAt st1 i) (fun ds => ds.length < sizeLine ∧ E.nx (putAt st1 i (ds ++ [d]))) ⟨⟩) E.ex) ⟨⟩ := by
  rw [wS_app, Option.isSome_iff_exists]
  show _ = ∃ a_1, lstAt st i = some a_1 ∧ _
  rw [exists_and_right]
  rfl
@[simp ↓] theorem z_iteS {t : Ex} {a b : List Sm} : wS C (.ite t a b) st E = wT C t st (fun k st1 => if k = true then wSs C a st1 E else wSs C b st1 E) E.ex := wS_ite
@[simp ↓] theorem z_for {k : ItK} {src : List Ex} {tg : Tg} {body : List Sm} : wS C (.for_ k src tg body) st E = wL C src st (fun ds st1 => bindO (itD k (ds.map (view st1.h))) (fun items => items.length ≤ sizeLine ∧
      forB (same ds st1.h) (fun x st2 R => ∃ e', tgS tg x st2.e = some e' ∧ wSs C body ⟨e', st2.h⟩ { nx := R, rt := E.rt, bk := E.nx, ct := R, ex := E.ex }) items st1 E.nx ⟨⟩ ⟨⟩) ⟨⟩) E.ex := wS_for
@[simp ↓] theorem z_rais {c : Nat} {es : List Ex} : wS C (.rais c es) st E = wL C es st (fun ds st1 => ds.length = (fldsOf c).length ∧ E.ex c ds st1) E.ex := wS_rais
@[simp ↓] theorem z_try {body : List Sm} {cs : List (Nat × Nat)} {suites : List (List Sm)} : wS C (.tryA body cs suites) st E = wSs C body st { nx := E.nx, rt := E.rt, bk := E.bk, ct := E.ct, ex := fun c fs st1 => wHs C cs suites c fs st1 E } := wS_try
@[simp ↓] theorem z_Hnil {c : Nat} {fs : List D} : wHs C [] [] c fs st E = E.ex c fs st := wHs_nil
@[simp ↓] theorem z_Hcons {k i c : Nat} {cs : List (Nat × Nat)} {suite : List Sm} {suites : List (List Sm)} {fs : List D} : wHs C ((k, i) :: cs) (suite :: suites) c fs st E = if excSub c k = true then wSs C suite ⟨st.e.set i (.exc c fs), st.h⟩
      { nx := fun st2 => noX (st2.e.set i .un) = true ∧ E.nx ⟨st2.e.set i .un, st2.h⟩, rt := fun d st2 => noX (st2.e.set i .un) = true ∧ E.rt d ⟨st2.e.set i .un, st2.h⟩,
        bk := fun st2 => noX (st2.e.set i .un) = true ∧ E.bk ⟨st2.e.set i .un, st2.h⟩, ct := fun st2 => noX (st2.e.set i .un) = true ∧ E.ct ⟨st2.e.set i .un, st2.h⟩, ex := fun _ _ _ => False } else wHs C cs suites c fs st E := wHs_cons
@[simp ↓] theorem z_par {is : List Nat} {es : List Ex} : wS C (.par is es) st E = wL C es st (fun ds st1 => bindO (setSs is ds st1.e) (fun e' => E.nx ⟨e', st1.h⟩) ⟨⟩) E.ex := wS_par
@[simp ↓] theorem z_setF {i : Nat} {x : Str} {a : Ex} : wS C (.setF i x a) st E = wE C a st (fun d st1 => bindO (objAt st1 i) (fun o => bindO (putFl o.2.1 x d o.2.2) (fun fs' => E.nx ⟨st1.e, st1.h.set o.1 (.obj o.2.1 fs')⟩) ⟨⟩) ⟨⟩) E.ex := by
  rw [wS_setF]
  congr 1
  funext d st1
  unfold bindO
  simp
@[simp ↓] theorem z_Snil : wSs C [] st E = E.nx st := wSs_nil
@[simp ↓] theorem z_Scons {s : Sm} {ss : List Sm} : wSs C (s :: ss) st E = wS C s st { nx := fun st1 => wSs C ss st1 E, rt := E.rt, bk := E.bk, ct := E.ct, ex := E.ex } := wSs_cons
end
@[simp] theorem hide_nil {e : List Sl} : hide e [] = e := by cases e <;> rfl
@[simp] theorem hide_cons {e : List Sl} {i : Nat} {r : List Nat} : hide e (i :: r) = (hide e r).set i .un := by cases r <;> rfl
def slU (x : Option Sl) : Sl := match x with
  | some (.shr d) => .shr d
  | _ => .un
@[simp] theorem slU_shr {d : D} : slU (some (.shr d)) = .shr d := rfl
@[simp] theorem slU_un : slU (some .un) = .un := rfl
@[simp] theorem slU_own {d : D} : slU (some (.own d)) = .un := rfl
@[simp] theorem slU_exc {c : Nat} {ds : List D} : slU (some (.exc c ds)) = .un := rfl
@[simp] theorem unhide_nil {e0 e : List Sl} : unhide e0 e [] = e := rfl
@[simp] theorem unhide_cons {e0 e : List Sl} {i : Nat} {r : List Nat} : unhide e0 e (i :: r) = (unhide e0 e r).set i (slU e0[i]?) := rfl
@[simp] theorem eqOk_str {a b : Str} : eqOk (.str a) (.str b) = true := rfl
@[simp] theorem eqOk_int {a b : Int} : eqOk (.int a) (.int b) = true := rfl
@[simp] theorem eqOk_bl {a b : Bool} : eqOk (.bl a) (.bl b) = true := rfl
@[simp] theorem eqD_str {a b : Str} : eqD (.str a) (.str b) = decide (a = b) := by simp only [eqD]
@[simp] theorem eqD_int {a b : Int} : eqD (.int a) (.int b) = decide (a = b) := by simp only [eqD]; exact Bool.eq_iff_iff.mpr (by simp)
@[simp] theorem eqD_bl {a b : Bool} : eqD (.bl a) (.bl b) = (a == b) := by simp only [eqD]
@[simp] theorem eqD_lst {a b : List D} : eqD (.lst a) (.lst b) = eqDs a b := by simp only [eqD]
@[simp] theorem eqD_tup {a b : List D} : eqD (.tup a) (.tup b) = eqDs a b := by simp only [eqD]
@[simp] theorem eqDs_nil : eqDs [] [] = true := by simp only [eqDs]
@[simp] theorem eqDs_cons {a b : D} {as bs : List D} : eqDs (a :: as) (b :: bs) = (eqD a b && eqDs as bs) := by simp only [eqDs]
theorem wSs_append {C : Calls} : ∀ {a b : List Sm} {st : Stt} {E : EndD}, wSs C (a ++ b) st E = wSs C a st { nx := fun st1 => wSs C b st1 E, rt := E.rt, bk := E.bk, ct := E.ct, ex := E.ex }
  | [], b, st, E => by rw [List.nil_append, wSs_nil]
  | s :: a, b, st, E => by
    rw [List.cons_append, wSs_cons, wSs_cons]
    congr 2
    funext st1
    rw [wSs_append]
/-- R is reached -/
def Rch (R : Stt → Prop) (st : Stt) (u : Hd R) : Prop := R st
theorem Rch_of {R : Stt → Prop} {st : Stt} {u : Hd R} (h : R st) : Rch R st u := h
def Rcl (R : List D → Stt → Prop) (ds : List D) (st : Stt) (u : Hd R) : Prop := R ds st
theorem Rcl_of {R : List D → Stt → Prop} {ds : List D} {st : Stt} {u : Hd R} (h : R ds st) : Rcl R ds st u := h
theorem cut {C : Calls} (hC : MonC C) (k : Nat) (R : Stt → Prop) {ss : List Sm} {st : Stt} {E : EndD} (h1 : wSs C (ss.take k) st { nx := fun st => Rch R st ⟨⟩, rt := E.rt, bk := E.bk, ct := E.ct, ex := E.ex }) (h2 : ∀ st, R st → wSs C (ss.drop k) st E) : wSs C ss st E := by
  rw [← List.take_append_drop k ss, wSs_append]
  exact wSs_mono hC _ h1 ⟨h2, fun _ _ z => z, fun _ z => z, fun _ z => z, fun _ _ _ z => z⟩
theorem forB_ok {chk : Stt → Prop} {C : Calls} (hC : MonC C) {st : Stt} {nx : Stt → Prop} {rt : D → Stt → Prop} {ex : PX} {tg : Tg} {body : List Sm} {items : List D} {u : Hd (fun x (st2 : Stt) R => ∃ e', tgS tg x st2.e = some e' ∧ wSs C body ⟨e', st2.h⟩ { nx := R, rt := rt, bk := nx, ct := R, ex := ex })} {v : Hd nx}
    (I : Nat → Stt → Prop) (h0 : I 0 st) (hs : ∀ i x st, items[i]? = some x → I i st → bindO (tgS tg x st.e) (fun e' => wSs C body ⟨e', st.h⟩ { nx := fun st => Rch (I (i + 1)) st ⟨⟩, rt := rt, bk := nx, ct := fun st => Rch (I (i + 1)) st ⟨⟩, ex := ex }) ⟨⟩) (he : ∀ st, I items.length st → nx st) (hc : ∀ i st, I i st → chk st := by intros; trivial) :
    forB chk (fun x (st2 : Stt) R => ∃ e', tgS tg x st2.e = some e' ∧ wSs C body ⟨e', st2.h⟩ { nx := R, rt := rt, bk := nx, ct := R, ex := ex }) items st nx u v :=
  for_ok (E := { nx := nx, rt := rt, bk := nx, ct := nx, ex := ex }) hC I hc h0 hs he
theorem lcB_ok {chk : Stt → Prop} {C : Calls} (hC : MonC C) {st : Stt} {Q : List D → Stt → Prop} {tg : Tg} {ifs : List Ex} {elt : Ex} {own : List Nat} {items : List D}
    {u : Hd (fun x (st2 : Stt) (R : List D → Stt → Prop) => ∃ e', tgS tg x st2.e = some e' ∧ wTs C ifs ⟨e', st2.h⟩ (fun b st3 => if b = true then wE C elt st3 (fun y st4 => R [y] ⟨hide st4.e own, st4.h⟩) (fun _ _ _ => False) else R [] ⟨hide st3.e own, st3.h⟩) (fun _ _ _ => False))} {v : Hd Q}
    (I : Nat → List D → Stt → Prop) (h0 : I 0 [] st)
    (hs : ∀ i x acc st, items[i]? = some x → I i acc st → bindO (tgS tg x st.e) (fun e' => wTs C ifs ⟨e', st.h⟩ (fun b st3 => if b = true then wE C elt st3 (fun y st4 => Rcl (I (i + 1)) (acc ++ [y]) ⟨hide st4.e own, st4.h⟩ ⟨⟩) (fun _ _ _ => False) else Rcl (I (i + 1)) acc ⟨hide st3.e own, st3.h⟩ ⟨⟩) (fun _ _ _ => False)) ⟨⟩)
    (he : ∀ acc st, I items.length acc st → Q acc st) (hc : ∀ i acc st, I i acc st → chk st := by intros; trivial) :
    lcB chk (fun x (st2 : Stt) R => ∃ e', tgS tg x st2.e = some e' ∧ wTs C ifs ⟨e', st2.h⟩ (fun b st3 => if b = true then wE C elt st3 (fun y st4 => R [y] ⟨hide st4.e own, st4.h⟩) (fun _ _ _ => False) else R [] ⟨hide st3.e own, st3.h⟩) (fun _ _ _ => False)) items st Q u v :=
  lc_ok hC I hc h0 hs he
theorem forB_list {chk : Stt → Prop} {C : Calls} (hC : MonC C) {st : Stt} {nx : Stt → Prop} {rt : D → Stt → Prop} {ex : PX} {tg : Tg} {body : List Sm} {items : List D} {u : Hd (fun x (st2 : Stt) R => ∃ e', tgS tg x st2.e = some e' ∧ wSs C body ⟨e', st2.h⟩ { nx := R, rt := rt, bk := nx, ct := R, ex := ex })} {v : Hd nx}
    (I : List D → Stt → Prop) (h0 : I items st) (hs : ∀ x xs st, I (x :: xs) st → bindO (tgS tg x st.e) (fun e' => wSs C body ⟨e', st.h⟩ { nx := fun st => Rch (I xs) st ⟨⟩, rt := rt, bk := nx, ct := fun st => Rch (I xs) st ⟨⟩, ex := ex }) ⟨⟩) (he : ∀ st, I [] st → nx st) (hc : ∀ xs st, I xs st → chk st := by intros; trivial) :
    forB chk (fun x (st2 : Stt) R => ∃ e', tgS tg x st2.e = some e' ∧ wSs C body ⟨e', st2.h⟩ { nx := R, rt := rt, bk := nx, ct := R, ex := ex }) items st nx u v := by
  show forLoop chk _ items st nx
  clear u v
  induction items generalizing st with
  | nil => exact ⟨hc _ st h0, he st h0⟩
  | cons x xs ih =>
    obtain ⟨e', h1, h2⟩ := hs x xs st h0
    exact ⟨hc _ st h0, e', h1, wSs_mono hC body h2 ⟨fun st z => ih z, fun _ _ z => z, fun _ z => z, fun st z => ih z, fun _ _ _ z => z⟩⟩
theorem lcB_list {chk : Stt → Prop} {C : Calls} (hC : MonC C) {st : Stt} {Q : List D → Stt → Prop} {tg : Tg} {ifs : List Ex} {elt : Ex} {own : List Nat} {items : List D}
    {u : Hd (fun x (st2 : Stt) (R : List D → Stt → Prop) => ∃ e', tgS tg x st2.e = some e' ∧ wTs C ifs ⟨e', st2.h⟩ (fun b st3 => if b = true then wE C elt st3 (fun y st4 => R [y] ⟨hide st4.e own, st4.h⟩) (fun _ _ _ => False) else R [] ⟨hide st3.e own, st3.h⟩) (fun _ _ _ => False))} {v : Hd Q}
    (I : List D → List D → Stt → Prop) (h0 : I items [] st)
    (hs : ∀ x xs acc st, I (x :: xs) acc st → bindO (tgS tg x st.e) (fun e' => wTs C ifs ⟨e', st.h⟩ (fun b st3 => if b = true then wE C elt st3 (fun y st4 => Rcl (I xs) (acc ++ [y]) ⟨hide st4.e own, st4.h⟩ ⟨⟩) (fun _ _ _ => False) else Rcl (I xs) acc ⟨hide st3.e own, st3.h⟩ ⟨⟩) (fun _ _ _ => False)) ⟨⟩)
    (he : ∀ acc st, I [] acc st → Q acc st) (hc : ∀ xs acc st, I xs acc st → chk st := by intros; trivial) :
    lcB chk (fun x (st2 : Stt) R => ∃ e', tgS tg x st2.e = some e' ∧ wTs C ifs ⟨e', st2.h⟩ (fun b st3 => if b = true then wE C elt st3 (fun y st4 => R [y] ⟨hide st4.e own, st4.h⟩) (fun _ _ _ => False) else R [] ⟨hide st3.e own, st3.h⟩) (fun _ _ _ => False)) items st Q u v := by
  show lcLoop chk _ items [] st Q
  clear u v
  have key : ∀ (items acc : List D) (st : Stt), I items acc st → lcLoop chk (fun x (st2 : Stt) R => ∃ e', tgS tg x st2.e = some e' ∧ wTs C ifs ⟨e', st2.h⟩ (fun b st3 => if b = true then wE C elt st3 (fun y st4 => R [y] ⟨hide st4.e own, st4.h⟩) (fun _ _ _ => False) else R [] ⟨hide st3.e own, st3.h⟩) (fun _ _ _ => False)) items acc st Q := by
    intro items
    induction items with
    | nil => exact fun acc st z => ⟨hc _ _ st z, he acc st z⟩
    | cons x xs ih =>
      intro acc st z
      obtain ⟨e', h1, h2⟩ := hs x xs acc st z
      refine ⟨hc _ _ st z, e', h1, wTs_mono hC ifs (fun b st3 w => ?_) (fun _ _ _ z => z) h2⟩
      split at w
      · rename_i hk; rw [if_pos hk]; exact wE_mono hC elt (fun y st4 z => ih _ _ z) (fun _ _ _ z => z) w
      · rename_i hk; rw [if_neg hk]; have z := ih _ _ w; rw [← List.append_nil acc] at z; exact z
  exact key items [] st h0
/-- str of an int -/
def digS (i : Int) : Str := toString i
def cutB (a : D) (lo hi : Option Int) (Q : D → Prop) (u : Hd Q) : Prop := cutW a lo hi Q
section
variable {Q : D → Prop} {i j : Int} {a b : D} {ds : List D} {u : Hd Q} {lo hi : Option Int}
@[simp] theorem cutB_lst : cutB (.lst ds) lo hi Q u = Q (.lst (cutL ds lo hi)) := rfl
@[simp] theorem cutB_tup : cutB (.tup ds) lo hi Q u = Q (.tup (cutL ds lo hi)) := rfl
@[simp] theorem cutB_str {x : Str} : cutB (.str x) lo hi Q u = (x.length ≤ sizeLine ∧ Q (.str (cutS x lo hi))) := rfl
@[simp] theorem strsD_nil : strsD [] = some [] := rfl
@[simp] theorem strsD_cons {x : Str} : strsD (.str x :: ds) = (strsD ds).map (x :: ·) := rfl
theorem strsD_map (xs : List Str) : strsD (xs.map D.str) = some xs := by
  induction xs with
  | nil => rfl
  | cons x xs ih => simp [ih]
@[simp] theorem intsD_nil : intsD [] = some [] := rfl
@[simp] theorem intsD_cons : intsD (.int i :: ds) = (intsD ds).map (i :: ·) := rfl
theorem intsD_map (xs : List Int) : intsD (xs.map D.int) = some xs := by
  induction xs with
  | nil => rfl
  | cons x xs ih => simp [ih]
@[simp] theorem blsD_nil : blsD [] = some [] := rfl
@[simp] theorem blsD_cons {k : Bool} : blsD (.bl k :: ds) = (blsD ds).map (k :: ·) := rfl
theorem blsD_map (xs : List Bool) : blsD (xs.map D.bl) = some xs := by
  induction xs with
  | nil => rfl
  | cons x xs ih => simp [ih]
@[simp] theorem z_add : opB .add [.int i, .int j] Q u = Q (.int (i + j)) := rfl
@[simp] theorem z_fdivN : opB .fdivN [.int i, .int j] Q u = ((j ≠ 0 ∧ j.natAbs < 1073741824) ∧ Q (.int (i.fdiv j))) := rfl
@[simp] theorem z_modN : opB .modN [.int i, .int j] Q u = (j ≠ 0 ∧ Q (.int (i.fmod j))) := rfl
@[simp] theorem z_addS {x y : Str} : opB .add [.str x, .str y] Q u = (x.length + y.length ≤ sizeLine ∧ Q (.str (x ++ y))) := rfl
@[simp] theorem z_addL {es : List D} : opB .add [.lst ds, .lst es] Q u = (ds.length + es.length ≤ sizeLine ∧ Q (.lst (ds ++ es))) := rfl
@[simp] theorem z_addT {es : List D} : opB .add [.tup ds, .tup es] Q u = (ds.length + es.length ≤ sizeLine ∧ Q (.tup (ds ++ es))) := rfl
@[simp] theorem z_mulS {x : Str} : opB .mul [.str x, .int j] Q u = ((0 ≤ j ∧ j ≤ 1000 ∧ x.length ≤ 1000) ∧ Q (.str (Txt.mul x j))) := rfl
@[simp] theorem z_eqL {es : List D} : opB .eqL [.lst ds, .lst es] Q u = bindO (itEqs ds es) (fun k => Q (.bl k)) ⟨⟩ := rfl
@[simp] theorem z_neL {es : List D} : opB .neL [.lst ds, .lst es] Q u = bindO (itEqs ds es) (fun k => Q (.bl (!k))) ⟨⟩ := rfl
@[simp] theorem z_inM {i : Int} : opB .inM [.int i, .lst ds] Q u = (ds.all fkD = true ∧ Q (.bl (ds.any fun z => eqD z (.int i)))) := rfl
@[simp] theorem z_ninM {i : Int} : opB .ninM [.int i, .lst ds] Q u = (ds.all fkD = true ∧ Q (.bl (!ds.any fun z => eqD z (.int i)))) := rfl
@[simp] theorem z_inT : opB .in_ [a, .tup ds] Q u = ((flatD 50 a = true ∧ flatDs 50 ds = true) ∧ Q (.bl (ds.any fun z => eqD z a))) := rfl
@[simp] theorem z_notInT : opB .notIn [a, .tup ds] Q u = ((flatD 50 a = true ∧ flatDs 50 ds = true) ∧ Q (.bl (!ds.any fun z => eqD z a))) := rfl
@[simp] theorem z_inS {x y : Str} : opB .in_ [.str x, .str y] Q u = Q (.bl (!(Builtin.Str.occurrences y x 0 y.length 1).isEmpty)) := rfl
@[simp] theorem z_notInS {x y : Str} : opB .notIn [.str x, .str y] Q u = Q (.bl (!(!(Builtin.Str.occurrences y x 0 y.length 1).isEmpty))) := rfl
@[simp] theorem z_sl0 : opB (.sl false false) [a] Q u = cutB a none none Q u := rfl
@[simp] theorem z_sl1 : opB (.sl true false) [a, .int i] Q u = cutB a (some i) none Q u := rfl
@[simp] theorem z_sl2 : opB (.sl false true) [a, .int i] Q u = cutB a none (some i) Q u := rfl
@[simp] theorem z_join {x : Str} : opB .join [.str x, a] Q u = bindO (seqD a) (fun es => bindO (strsD es) (fun ys => (ys.map (·.length)).sum + ys.length * x.length ≤ 16777216 ∧ Q (.str (Txt.join x ys))) ⟨⟩) ⟨⟩ := by
  show joinW [.str x, a] Q = _
  unfold bindO
  simp [joinW]
@[simp] theorem z_split {x y : Str} : opB .split [.str x, .str y] Q u = (((y.length == 0) = false ∧ x.length + 2 ≤ sizeLine) ∧ Q (.lst ((Txt.split x y).map D.str))) := rfl
@[simp] theorem z_rmpre {x y : Str} : opB .rmpre [.str x, .str y] Q u = (x.length ≤ sizeLine ∧ Q (.str (Txt.removeprefix x y))) := rfl
@[simp] theorem z_starts {x y : Str} : opB .starts [.str x, .str y] Q u = Q (.bl (Txt.startswith x y)) := rfl
@[simp] theorem z_index {x y : Str} : opB .index [.str x, .str y] Q u = bindO (Txt.index0 x y) (fun k => Q (.int (k : Nat))) ⟨⟩ := rfl
@[simp] theorem z_find {x y : Str} : opB .find [.str x, .str y] Q u = Q (.int (Txt.find x y)) := rfl
@[simp] theorem z_fldO {c : Nat} {x : Str} : opB (.fld x) [.obj c ds] Q u = bindO (fldIx c x) (fun k => bindO ds[k]? Q u) ⟨⟩ := by
  show fldW x (.obj c ds) Q = _
  unfold bindO fldW
  simp
@[simp] theorem z_all : opB .all [.lst ds] Q u = bindO (blsD ds) (fun bs => Q (.bl (bs.all id))) ⟨⟩ := by
  show allW _ _ = _
  unfold bindO allW
  simp
@[simp] theorem z_any : opB .any [.lst ds] Q u = bindO (blsD ds) (fun bs => Q (.bl (bs.any id))) ⟨⟩ := by
  show anyW _ _ = _
  unfold bindO anyW
  simp
@[simp] theorem z_sum : opB .sum [.lst ds] Q u = bindO (intsD ds) (fun bs => Q (.int bs.sum)) ⟨⟩ := by
  show sumW _ _ = _
  unfold bindO sumW
  simp
@[simp] theorem z_maxL : opB .maxL [.lst ds] Q u = bindO (intsD ds) (fun bs => bs ≠ [] ∧ Q (.int (maxL bs))) ⟨⟩ := by
  show maxW _ _ = _
  unfold bindO maxW
  simp
@[simp] theorem z_minL : opB .minL [.lst ds] Q u = bindO (intsD ds) (fun bs => bs ≠ [] ∧ Q (.int (minL bs))) ⟨⟩ := by
  show minW _ _ = _
  unfold bindO minW
  simp
@[simp] theorem z_sorted : opB .sorted [.lst ds] Q u = bindO (sortD ds) (fun out => Q (.lst out)) ⟨⟩ := by
  show sortW _ _ = _
  unfold bindO sortW
  simp
@[simp] theorem z_diff {tp : Bool} : opB (.diff tp) [a] Q u = bindO (seqD a) (fun es => es.length < 64 ∧ bindO (diffD es) (fun out => Q (if tp = true then .tup out else .lst out)) ⟨⟩) ⟨⟩ := by
  show diffW _ _ _ = _
  unfold bindO diffW
  simp
@[simp] theorem z_revL : opB .rev [.lst ds] Q u = Q (.lst ds.reverse) := rfl
@[simp] theorem z_revT : opB .rev [.tup ds] Q u = Q (.tup ds.reverse) := rfl
@[simp] theorem z_isT {k : Bool} : opB .isT [.bl k] Q u = Q (.bl (decide (k = true))) := rfl
@[simp] theorem z_isF {k : Bool} : opB .isF [.bl k] Q u = Q (.bl (decide (k = false))) := rfl
@[simp] theorem z_isNT {k : Bool} : opB .isNT [.bl k] Q u = Q (.bl (!decide (k = true))) := rfl
@[simp] theorem z_isNF {k : Bool} : opB .isNF [.bl k] Q u = Q (.bl (!decide (k = false))) := rfl
@[simp] theorem z_rng1 : opB .rng1 [.int i] Q u = ((-(2 ^ 22) < i ∧ i < 2 ^ 22) ∧ Q (.lst (rngL 0 i))) := rfl
@[simp] theorem z_rng2 : opB .rng2 [.int i, .int j] Q u = ((-(2 ^ 22) < i ∧ i < 2 ^ 22 ∧ -(2 ^ 22) < j ∧ j < 2 ^ 22) ∧ Q (.lst (rngL i j))) := rfl
@[simp] theorem z_sub : opB .sub [.int i, .int j] Q u = Q (.int (i - j)) := rfl
@[simp] theorem z_mulI : opB .mul [.int i, .int j] Q u = (CMul i j ∧ Q (.int (i * j))) := rfl
@[simp] theorem z_mulL : opB .mul [.lst ds, .int j] Q u = ((0 ≤ j ∧ j ≤ 1000 ∧ ds.length ≤ 1000) ∧ Q (.lst (List.replicate j.toNat ds).flatten)) := rfl
@[simp] theorem z_fdiv : opB .fdiv [.int i, .int j] Q u = ((0 < j ∧ j.natAbs.log2 < 9000) ∧ Q (.int (i / j))) := rfl
@[simp] theorem z_mod : opB .mod [.int i, .int j] Q u = (0 < j ∧ Q (.int (i % j))) := rfl
@[simp] theorem z_pow : opB .pow [.int i, .int j] Q u = ((0 ≤ j ∧ j ≤ 1000000 ∧ i.natAbs < 2 ^ 64) ∧ Q (.int (i ^ j.toNat))) := rfl
@[simp] theorem z_neg : opB .neg [.int i] Q u = Q (.int (-i)) := rfl
@[simp] theorem z_eq : opB .eq [a, b] Q u = (eqOk a b = true ∧ Q (.bl (eqD a b))) := rfl
@[simp] theorem z_ne : opB .ne [a, b] Q u = (eqOk a b = true ∧ Q (.bl (!eqD a b))) := rfl
@[simp] theorem z_lt : opB .lt [.int i, .int j] Q u = Q (.bl (decide (i < j))) := rfl
@[simp] theorem z_le : opB .le [.int i, .int j] Q u = Q (.bl (decide (i ≤ j))) := rfl
@[simp] theorem z_gt : opB .gt [.int i, .int j] Q u = Q (.bl (decide (j < i))) := rfl
@[simp] theorem z_ge : opB .ge [.int i, .int j] Q u = Q (.bl (decide (j ≤ i))) := rfl
@[simp] theorem z_isN : opB .isN [a] Q u = Q (.bl (isNonD a)) := rfl
@[simp] theorem z_isNotN : opB .isNotN [a] Q u = Q (.bl (!isNonD a)) := rfl
@[simp] theorem z_in : opB .in_ [a, .lst ds] Q u = ((flatD 50 a = true ∧ flatDs 50 ds = true) ∧ Q (.bl (ds.any fun z => eqD z a))) := rfl
@[simp] theorem z_notIn : opB .notIn [a, .lst ds] Q u = ((flatD 50 a = true ∧ flatDs 50 ds = true) ∧ Q (.bl (!ds.any fun z => eqD z a))) := rfl
@[simp] theorem z_lenL : opB .len [.lst ds] Q u = Q (.int ds.length) := rfl
@[simp] theorem z_lenT : opB .len [.tup ds] Q u = Q (.int ds.length) := rfl
@[simp] theorem z_lenR : opB .len [.scr ds] Q u = Q (.int ds.length) := rfl
@[simp] theorem z_lenS {x : Str} : opB .len [.str x] Q u = (x.length ≤ sizeLine ∧ Q (.int x.length)) := rfl
@[simp] theorem z_abs : opB .abs [.int i] Q u = Q (.int (if i < 0 then -i else i)) := rfl
@[simp] theorem z_max2 : opB .max2 [.int i, .int j] Q u = Q (.int (if j > i then j else i)) := rfl
@[simp] theorem z_min2 : opB .min2 [.int i, .int j] Q u = Q (.int (if j < i then j else i)) := rfl
@[simp] theorem z_toIntI : opB .toInt [.int i] Q u = Q (.int i) := rfl
@[simp] theorem z_toIntB {k : Bool} : opB .toInt [.bl k] Q u = Q (.int (if k then 1 else 0)) := rfl
@[simp] theorem z_toStr : opB .toStr [.int i] Q u = (i.natAbs.log2 < 1920 ∧ Q (.str (digS i))) := rfl
@[simp] theorem z_repr : opB .repr [a] Q u = bindO (reprD a) (fun x => Q (.str x)) ⟨⟩ := rfl
@[simp] theorem z_toListL : opB .toList [.lst ds] Q u = Q (.lst ds) := by
  show toListW (.lst ds) Q = _
  simp [toListW]
@[simp] theorem z_toListT : opB .toList [.tup ds] Q u = Q (.lst ds) := by
  show toListW (.tup ds) Q = _
  simp [toListW]
@[simp] theorem z_toListC : opB .toList [.scr ds] Q u = Q (.lst ds) := by
  show toListW (.scr ds) Q = _
  simp [toListW]
@[simp] theorem z_toListS {x : Str} : opB .toList [.str x] Q u = (x.length ≤ sizeLine ∧ Q (.lst (x.cps.toList.map fun c => D.str ⟨#[c]⟩))) := rfl
@[simp] theorem z_toTuple : opB .toTuple [a] Q u = bindO (seqD a) (fun es => Q (.tup es)) ⟨⟩ := rfl
@[simp] theorem z_itemL : opB .item [.lst ds, .int i] Q u = bindO (atI ds i) Q u := by
  show itemW [.lst ds, .int i] Q = _
  unfold bindO itemW
  simp
@[simp] theorem z_itemT : opB .item [.tup ds, .int i] Q u = bindO (atI ds i) Q u := by
  show itemW [.tup ds, .int i] Q = _
  unfold bindO itemW
  simp
@[simp] theorem z_itemC : opB .item [.scr ds, .int i] Q u = bindO (atI ds i) Q u := by
  show itemW [.scr ds, .int i] Q = _
  unfold bindO itemW
  simp
@[simp] theorem z_itemS {x : Str} : opB .item [.str x, .int i] Q u = bindO (atI x.cps.toList i) (fun c => x.length ≤ sizeLine ∧ Q (.str ⟨#[c]⟩)) ⟨⟩ := by
  show itemW [.str x, .int i] Q = _
  unfold bindO itemW
  simp only [eq_iff_iff]
  constructor
  · rintro ⟨c, h1, h2, h3⟩; exact ⟨c, h2, h1, h3⟩
  · rintro ⟨c, h1, h2, h3⟩; exact ⟨c, h2, h1, h3⟩
@[simp] theorem z_isi {ts : List Ty} {t : Bool} : opB (.isi ts t) [a] Q u = (tyOk a = true ∧ Q (.bl (ts.any (tyD a)))) := rfl
end
/-! the classes' fields -/
@[simp] theorem fl_0 : (fldsOf 0).length = 4 := by decide +kernel
@[simp] theorem fx_0_0 : fldIx 0 (Str.ofString "own_base") = some 0 := by decide +kernel
@[simp] theorem fx_0_1 : fldIx 0 (Str.ofString "own_digits") = some 1 := by decide +kernel
@[simp] theorem fx_0_2 : fldIx 0 (Str.ofString "own_bars") = some 2 := by decide +kernel
@[simp] theorem fx_0_3 : fldIx 0 (Str.ofString "own_parts") = some 3 := by decide +kernel
@[simp] theorem fl_1 : (fldsOf 1).length = 4 := by decide +kernel
@[simp] theorem fx_1_0 : fldIx 1 (Str.ofString "own_terms") = some 0 := by decide +kernel
@[simp] theorem fx_1_1 : fldIx 1 (Str.ofString "own_target") = some 1 := by decide +kernel
@[simp] theorem fx_1_2 : fldIx 1 (Str.ofString "found") = some 2 := by decide +kernel
@[simp] theorem fx_1_3 : fldIx 1 (Str.ofString "opened") = some 3 := by decide +kernel
@[simp] theorem fl_2 : (fldsOf 2).length = 4 := by decide +kernel
@[simp] theorem fx_2_0 : fldIx 2 (Str.ofString "scheme") = some 0 := by decide +kernel
@[simp] theorem fx_2_1 : fldIx 2 (Str.ofString "came") = some 1 := by decide +kernel
@[simp] theorem fx_2_2 : fldIx 2 (Str.ofString "parts") = some 2 := by decide +kernel
@[simp] theorem fx_2_3 : fldIx 2 (Str.ofString "best") = some 3 := by decide +kernel
@[simp] theorem fl_3 : (fldsOf 3).length = 6 := by decide +kernel
@[simp] theorem fx_3_0 : fldIx 3 (Str.ofString "prices") = some 0 := by decide +kernel
@[simp] theorem fx_3_1 : fldIx 3 (Str.ofString "ways") = some 1 := by decide +kernel
@[simp] theorem fx_3_2 : fldIx 3 (Str.ofString "before") = some 2 := by decide +kernel
@[simp] theorem fx_3_3 : fldIx 3 (Str.ofString "costs") = some 3 := by decide +kernel
@[simp] theorem fx_3_4 : fldIx 3 (Str.ofString "best") = some 4 := by decide +kernel
@[simp] theorem fx_3_5 : fldIx 3 (Str.ofString "nexts") = some 5 := by decide +kernel
@[simp] theorem fl_4 : (fldsOf 4).length = 5 := by decide +kernel
@[simp] theorem fx_4_0 : fldIx 4 (Str.ofString "scheme") = some 0 := by decide +kernel
@[simp] theorem fx_4_1 : fldIx 4 (Str.ofString "bottom") = some 1 := by decide +kernel
@[simp] theorem fx_4_2 : fldIx 4 (Str.ofString "first") = some 2 := by decide +kernel
@[simp] theorem fx_4_3 : fldIx 4 (Str.ofString "most") = some 3 := by decide +kernel
@[simp] theorem fx_4_4 : fldIx 4 (Str.ofString "ways") = some 4 := by decide +kernel
@[simp] theorem fl_100 : (fldsOf 100).length = 0 := by decide +kernel
@[simp] theorem fl_101 : (fldsOf 101).length = 1 := by decide +kernel
@[simp] theorem fx_101_0 : fldIx 101 (Str.ofString "value") = some 0 := by decide +kernel
@[simp] theorem fl_102 : (fldsOf 102).length = 1 := by decide +kernel
@[simp] theorem fx_102_0 : fldIx 102 (Str.ofString "value") = some 0 := by decide +kernel
@[simp] theorem fl_103 : (fldsOf 103).length = 1 := by decide +kernel
@[simp] theorem fx_103_0 : fldIx 103 (Str.ofString "value") = some 0 := by decide +kernel
@[simp] theorem fl_104 : (fldsOf 104).length = 1 := by decide +kernel
@[simp] theorem fx_104_0 : fldIx 104 (Str.ofString "row") = some 0 := by decide +kernel
@[simp] theorem fl_105 : (fldsOf 105).length = 1 := by decide +kernel
@[simp] theorem fx_105_0 : fldIx 105 (Str.ofString "text") = some 0 := by decide +kernel
@[simp] theorem fl_106 : (fldsOf 106).length = 1 := by decide +kernel
@[simp] theorem fx_106_0 : fldIx 106 (Str.ofString "number") = some 0 := by decide +kernel
@[simp] theorem fl_107 : (fldsOf 107).length = 1 := by decide +kernel
@[simp] theorem fx_107_0 : fldIx 107 (Str.ofString "length") = some 0 := by decide +kernel
@[simp] theorem fl_108 : (fldsOf 108).length = 1 := by decide +kernel
@[simp] theorem fx_108_0 : fldIx 108 (Str.ofString "value") = some 0 := by decide +kernel
@[simp] theorem fl_109 : (fldsOf 109).length = 1 := by decide +kernel
@[simp] theorem fx_109_0 : fldIx 109 (Str.ofString "term") = some 0 := by decide +kernel
@[simp] theorem fl_110 : (fldsOf 110).length = 1 := by decide +kernel
@[simp] theorem fx_110_0 : fldIx 110 (Str.ofString "rows") = some 0 := by decide +kernel
@[simp] theorem fl_111 : (fldsOf 111).length = 1 := by decide +kernel
@[simp] theorem fx_111_0 : fldIx 111 (Str.ofString "state") = some 0 := by decide +kernel
@[simp] theorem fl_112 : (fldsOf 112).length = 1 := by decide +kernel
@[simp] theorem fx_112_0 : fldIx 112 (Str.ofString "reading") = some 0 := by decide +kernel
@[simp] theorem fl_113 : (fldsOf 113).length = 1 := by decide +kernel
@[simp] theorem fx_113_0 : fldIx 113 (Str.ofString "prices") = some 0 := by decide +kernel
@[simp] theorem fl_114 : (fldsOf 114).length = 1 := by decide +kernel
@[simp] theorem fx_114_0 : fldIx 114 (Str.ofString "value") = some 0 := by decide +kernel
@[simp] theorem fl_115 : (fldsOf 115).length = 1 := by decide +kernel
@[simp] theorem fx_115_0 : fldIx 115 (Str.ofString "value") = some 0 := by decide +kernel
@[simp] theorem fl_116 : (fldsOf 116).length = 2 := by decide +kernel
@[simp] theorem fx_116_0 : fldIx 116 (Str.ofString "top") = some 0 := by decide +kernel
@[simp] theorem fx_116_1 : fldIx 116 (Str.ofString "bottom") = some 1 := by decide +kernel
@[simp] theorem fl_117 : (fldsOf 117).length = 1 := by decide +kernel
@[simp] theorem fx_117_0 : fldIx 117 (Str.ofString "word") = some 0 := by decide +kernel
@[simp] theorem fl_118 : (fldsOf 118).length = 1 := by decide +kernel
@[simp] theorem fx_118_0 : fldIx 118 (Str.ofString "name") = some 0 := by decide +kernel
@[simp] theorem fl_119 : (fldsOf 119).length = 1 := by decide +kernel
@[simp] theorem fx_119_0 : fldIx 119 (Str.ofString "line") = some 0 := by decide +kernel
@[simp] theorem fl_120 : (fldsOf 120).length = 1 := by decide +kernel
@[simp] theorem fx_120_0 : fldIx 120 (Str.ofString "digit") = some 0 := by decide +kernel
@[simp] theorem fl_121 : (fldsOf 121).length = 1 := by decide +kernel
@[simp] theorem fx_121_0 : fldIx 121 (Str.ofString "name") = some 0 := by decide +kernel
@[simp] theorem fl_122 : (fldsOf 122).length = 1 := by decide +kernel
@[simp] theorem fx_122_0 : fldIx 122 (Str.ofString "value") = some 0 := by decide +kernel
@[simp] theorem fl_123 : (fldsOf 123).length = 2 := by decide +kernel
@[simp] theorem fx_123_0 : fldIx 123 (Str.ofString "one") = some 0 := by decide +kernel
@[simp] theorem fx_123_1 : fldIx 123 (Str.ofString "other") = some 1 := by decide +kernel
@[simp] theorem fl_124 : (fldsOf 124).length = 1 := by decide +kernel
@[simp] theorem fx_124_0 : fldIx 124 (Str.ofString "name") = some 0 := by decide +kernel
@[simp] theorem fl_125 : (fldsOf 125).length = 1 := by decide +kernel
@[simp] theorem fx_125_0 : fldIx 125 (Str.ofString "number") = some 0 := by decide +kernel
@[simp] theorem fl_126 : (fldsOf 126).length = 1 := by decide +kernel
@[simp] theorem fx_126_0 : fldIx 126 (Str.ofString "name") = some 0 := by decide +kernel
@[simp] theorem fl_127 : (fldsOf 127).length = 1 := by decide +kernel
@[simp] theorem fx_127_0 : fldIx 127 (Str.ofString "value") = some 0 := by decide +kernel
@[simp] theorem fl_128 : (fldsOf 128).length = 1 := by decide +kernel
@[simp] theorem fx_128_0 : fldIx 128 (Str.ofString "value") = some 0 := by decide +kernel
@[simp] theorem fl_129 : (fldsOf 129).length = 1 := by decide +kernel
@[simp] theorem fx_129_0 : fldIx 129 (Str.ofString "value") = some 0 := by decide +kernel
@[simp] theorem fl_130 : (fldsOf 130).length = 1 := by decide +kernel
@[simp] theorem fx_130_0 : fldIx 130 (Str.ofString "most") = some 0 := by decide +kernel
@[simp] theorem fl_131 : (fldsOf 131).length = 0 := by decide +kernel
end Mp
namespace Mp
open PySem PySem.Spec L2
/-! the helpers that the laws share -/
def fnCell (a b : Int) : Fn := ⟨2, 2, [.ite (.tb (.op .lt [.brw 1, .op .len [.brw 0]])) [.ret (.op .item [.brw 0, .brw 1])] [],
    .ret (.op .add [.op .mul [.con (.int a), .brw 1], .con (.int b)])], false⟩
def fnBox : Fn := ⟨1, 1, [.ret (.cel (.lst [.op .max2 [.con (.int 0), .op .sub [.brw 0, .op .pow [.con (.int 10), .con (.int 18)]]], .op .mod [.op .toInt [.brw 0], .con (.int 2147483629)], .con (.int 0)]))], false⟩
def fnTake (a b c d : Int) : Fn := ⟨2, 4, [.ite (.tb (.op .gt [.op .item [.brw 0, .con (.int 0)], .con (.int 0)])) [.asg (.nm 2) (.op .mod [.op .toInt [.op .item [.brw 0, .con (.int 0)]], .brw 1]),
    .setI 0 (.con (.int 0)) (.op .fdiv [.op .item [.brw 0, .con (.int 0)], .brw 1]),
    .ret (.var 2)] [],
    .setI 0 (.con (.int 2)) (.op .add [.op .item [.brw 0, .con (.int 2)], .con (.int 1)]),
    .asg (.nm 3) (.op .mod [.op .pow [.op .toInt [.op .add [.op .add [.op .item [.brw 0, .con (.int 1)], .op .mul [.con (.int a), .op .item [.brw 0, .con (.int 2)]]], .con (.int b)]], .con (.int 5)], .con (.int 2147483647)]),
    .asg (.nm 3) (.op .mod [.op .pow [.op .toInt [.op .add [.brw 3, .op .mul [.con (.int c), .op .item [.brw 0, .con (.int 2)]]]], .con (.int 3)], .con (.int 2147483587)]),
    .ret (.op .mod [.op .toInt [.op .fdiv [.brw 3, .con (.int d)]], .brw 1])], false⟩
def fnMixed (t : Nat) : Fn := ⟨2, 4, [.asgO 3 (.op .toList [.brw 1]),
    .ret (.lc .range1 [.op .len [.brw 1]] (.nm 2) [] (.pop 3 (.call t [.var 0, .op .len [.brw 3]] [.inl 0, .inl 1])) [2])], false⟩
/-- a box at l with k draws left at least -/
def Bx (k : Nat) (h : List CO) (l : Nat) : Prop := ∃ a b c : Int, h[l]? = some (.lst [.int a, .int b, .int c]) ∧ 0 ≤ a ∧ 0 ≤ b ∧ b < 2147483629 ∧ 0 ≤ c ∧ c + k ≤ 2 ^ 40
theorem Bx.mono {k j : Nat} {h : List CO} {l : Nat} (b : Bx k h l) (hj : j ≤ k) : Bx j h l := by
  obtain ⟨a, b, c, e, h1, h2, h3, h4, h5⟩ := b
  exact ⟨a, b, c, e, h1, h2, h3, h4, by omega⟩
theorem Bx.app {k : Nat} {h g : List CO} {l : Nat} (b : Bx k h l) : Bx k (h ++ g) l := by
  obtain ⟨a, b, c, e, h1⟩ := b
  exact ⟨a, b, c, by rw [List.getElem?_append_left (lt_of_get e)]; exact e, h1⟩
/-- nothing but the box at l has changed -/
def Ot (l : Nat) (h h' : List CO) : Prop := h'.length = h.length ∧ ∀ j, j ≠ l → h'[j]? = h[j]?
theorem Ot.refl {l : Nat} {h : List CO} : Ot l h h := ⟨rfl, fun _ _ => rfl⟩
theorem Ot.trans {l : Nat} {h h' h2 : List CO} (a : Ot l h h') (b : Ot l h' h2) : Ot l h h2 := ⟨b.1.trans a.1, fun j hj => (b.2 j hj).trans (a.2 j hj)⟩
theorem Ot.set {l : Nat} {h : List CO} {c : CO} : Ot l h (h.set l c) := ⟨List.length_set, fun j hj => List.getElem?_set_ne (Ne.symm hj)⟩
@[simp] theorem arr_nil {ds : List D} : arr [] ds = [] := rfl
@[simp] theorem arr_inl {i : Nat} {ar : List (Sum Nat D)} {ds : List D} : arr (.inl i :: ar) ds = ds.getD i .non :: arr ar ds := rfl
@[simp] theorem arr_inr {d : D} {ar : List (Sum Nat D)} {ds : List D} : arr (.inr d :: ar) ds = d :: arr ar ds := rfl
/-- a call, as an equation -/
theorem CC_eq {P : Nat → Option Fn} {n f : Nat} {fn : Fn} {ds : List D} {h : List CO} {Q : D → List CO → Prop} {X : Nat → List D → List CO → Prop} (hf : P f = some fn) (hn : 0 < n) (hl : ds.length = fn.np) :
    CC P n f ds h Q X = wSs (CC P (n - 1)) fn.body ⟨startE fn ds, h⟩ { nx := fun st => Q .non st.h, rt := fun d st => Q d st.h, bk := fun _ => False, ct := fun _ => False, ex := fun c fs st => X c fs st.h } := by
  cases n with
  | zero => cases hn
  | succ n =>
    show (match P f with | some fn => (ds.length = fn.np ∧ wSs (CC P n) fn.body ⟨startE fn ds, h⟩ { nx := fun st => Q .non st.h, rt := fun d st => Q d st.h, bk := fun _ => False, ct := fun _ => False, ex := fun c fs st => X c fs st.h }) | none => False) = _
    rw [hf]
    exact propext ⟨fun z => z.2, fun z => ⟨hl, z⟩⟩
/-- a comprehension of pure turns -/
theorem lcLoop_pure {turn : D → Stt → (List D → Stt → Prop) → Prop} {g : D → List D} {st : Stt} : ∀ {items acc : List D} {Q : List D → Stt → Prop}, (∀ x ∈ items, ∀ R, turn x st R = R (g x) st) → lcLoop (fun _ => True) turn items acc st Q = Q (acc ++ items.flatMap g) st
  | [], acc, Q, _ => by simp [lcLoop]
  | x :: xs, acc, Q, h => by
    show (True ∧ turn x st (fun r st1 => lcLoop (fun _ => True) turn xs (acc ++ r) st1 Q)) = _
    rw [h x (by simp)]
    show (True ∧ lcLoop (fun _ => True) turn xs (acc ++ g x) st Q) = _
    rw [lcLoop_pure fun y hy => h y (by simp [hy])]
    simp
theorem lcB_pure {turn : D → Stt → (List D → Stt → Prop) → Prop} {st : Stt} {items : List D} {Q : List D → Stt → Prop} {u : Hd turn} {v : Hd Q} (g : D → List D) (h : ∀ x ∈ items, ∀ R, turn x st R = R (g x) st) : lcB (fun _ => True) turn items st Q u v = Q (items.flatMap g) st := by
  show lcLoop (fun _ => True) turn items [] st Q = _
  rw [lcLoop_pure h]
  rfl
theorem flatMap_one {f : D → D} {items : List D} : items.flatMap (fun x => [f x]) = items.map f := by
  induction items with
  | nil => rfl
  | cons x xs ih => simp [ih]
theorem lcB_map {turn : D → Stt → (List D → Stt → Prop) → Prop} {st : Stt} {items : List D} {Q : List D → Stt → Prop} {u : Hd turn} {v : Hd Q} (f : D → D) (h : ∀ x ∈ items, ∀ R, turn x st R = R [f x] st) : lcB (fun _ => True) turn items st Q u v = Q (items.map f) st := by
  rw [lcB_pure (fun x => [f x]) h, flatMap_one]
section
variable {P : Nat → Option Fn} {n f : Nat} {h : List CO} {Q : D → List CO → Prop} {X : Nat → List D → List CO → Prop}
theorem cell_ok {a b : Int} {ns : List Int} {k : Int} (hf : P f = some (fnCell a b)) (hn : 1 ≤ n) (hk : 0 ≤ k) (hk2 : k < 2 ^ 20) (q : ∀ i, Q (.int i) h) : CC P n f [.scr (ns.map D.int), .int k] h Q X := by
  refine CC_of hf hn rfl ?_
  simp [fnCell, startE, ]
  by_cases hl : k < (ns.length : Int)
  · obtain ⟨j, rfl⟩ := Int.eq_ofNat_of_zero_le hk
    have hj : j < ns.length := by omega
    rw [if_pos hl]
    refine ⟨.int ns[j], ?_, q _⟩
    unfold atI ixN
    simp [hj]
  · rw [if_neg hl]
    exact ⟨.inr ⟨by omega, by omega⟩, q _⟩
theorem box_ok {i : Int} (hf : P f = some fnBox) (hn : 1 ≤ n) (q : ∀ h', Bx (2 ^ 39) h' h.length → h'.length = h.length + 1 → (∀ j, j < h.length → h'[j]? = h[j]?) → Q (.cell h.length) h') : CC P n f [.int i] h Q X := by
  refine CC_of hf hn rfl ?_
  simp [fnBox, startE, ]
  refine q _ ⟨if 1000000000000000000 < i then i - 1000000000000000000 else 0, i % 2147483629, 0, by simp, ?_, Int.emod_nonneg _ (by decide), Int.emod_lt_of_pos _ (by decide), by decide, by decide⟩ (by simp) (fun j hj => List.getElem?_append_left hj)
  split <;> omega
theorem atI3 {a b c : D} : atI [a, b, c] 0 = some a ∧ atI [a, b, c] 1 = some b ∧ atI [a, b, c] 2 = some c := ⟨rfl, rfl, rfl⟩
theorem take_ok {a b c d m : Int} {l k : Nat} (hf : P f = some (fnTake a b c d)) (hn : 1 ≤ n) (ha : 0 ≤ a) (ha2 : a < 2 ^ 20) (hb : 0 ≤ b) (hb2 : b < 2 ^ 20) (hc : 0 ≤ c) (hc2 : c < 2 ^ 20) (hd : 0 < d) (hd2 : d < 2 ^ 20) (hm : 0 < m) (hm2 : m.natAbs.log2 < 9000)
    (hx : Bx (k + 1) h l) (q : ∀ i h', 0 ≤ i → i < m → Bx k h' l → Ot l h h' → Q (.int i) h') : CC P n f [.cell l, .int m] h Q X := by
  refine CC_of hf hn rfl ?_
  obtain ⟨x, y, z, e, h1, h2, h3, h4, h5⟩ := hx
  have hl : l < h.length := lt_of_get e
  have hv := view_cell e
  by_cases hx0 : 0 < x
  · simp [fnTake, startE, hv, atI3, hx0, hm, hm2, e, ixN]
    refine q _ _ (Int.emod_nonneg _ (by omega)) (Int.emod_lt_of_pos _ hm) ⟨x / m, y, z, by simp [hl], Int.ediv_nonneg h1 (by omega), h2, h3, h4, by omega⟩ Ot.set
  · have hx1 : x ≤ 0 := by omega
    have hv2 : ∀ ds, view (h.set l (.lst ds)) (.cell l) = .lst ds := fun ds => view_cell (by simp [hl])
    simp [fnTake, startE, hv, hv2, atI3, hx0, hx1, hm, hm2, hd, e, ixN]
    have b1 : 0 ≤ a * (z + 1) := Int.mul_nonneg ha (by omega)
    have b2 : a * (z + 1) ≤ 2 ^ 20 * 2 ^ 40 := Int.mul_le_mul (by omega) (by omega) (by omega) (by decide)
    have b3 : 0 ≤ c * (z + 1) := Int.mul_nonneg hc (by omega)
    have b4 : c * (z + 1) ≤ 2 ^ 20 * 2 ^ 40 := Int.mul_le_mul (by omega) (by omega) (by omega) (by decide)
    generalize a * (z + 1) = A at *
    generalize c * (z + 1) = B at *
    have m1 := Int.emod_nonneg ((y + A + b) ^ 5) (show (2147483647 : Int) ≠ 0 by decide)
    have m2 := Int.emod_lt_of_pos ((y + A + b) ^ 5) (show (0 : Int) < 2147483647 by decide)
    generalize (y + A + b) ^ 5 % 2147483647 = C at *
    have lg : d.natAbs.log2 < 9000 := by
      have : d.natAbs < 2 ^ 20 := by omega
      by_cases h0 : d.natAbs = 0
      · rw [h0]; decide
      · have := (Nat.log2_lt h0).mpr this
        omega
    refine ⟨.inl ⟨by omega, by omega⟩, by omega, .inl ⟨by omega, by omega⟩, by omega, lg, ?_⟩
    exact q _ _ (Int.emod_nonneg _ (by omega)) (Int.emod_lt_of_pos _ hm) ⟨x, y, z + 1, by simp [hl], h1, h2, h3, by omega, by omega⟩ Ot.set
theorem popAt_of {ds : List D} {i : Int} (h0 : 0 ≤ i) (h1 : i < ds.length) : ∃ j, ∃ hj : j < ds.length, popAt ds i = some (ds[j], ds.eraseIdx j) := by
  obtain ⟨j, rfl⟩ := Int.eq_ofNat_of_zero_le h0
  have hj : j < ds.length := by omega
  refine ⟨j, hj, ?_⟩
  unfold popAt ixN
  simp [hj]
theorem log2_lt' {n : Int} {k : Nat} (h : n.natAbs < 2 ^ k) : n.natAbs.log2 ≤ k := by
  by_cases h0 : n.natAbs = 0
  · rw [h0]; exact Nat.zero_le _
  · exact Nat.le_of_lt ((Nat.log2_lt h0).mpr h)
theorem log2_lt {n : Int} {k : Nat} (h : n.natAbs < 2 ^ k) (hk : k < 9000) : n.natAbs.log2 < 9000 := by
  by_cases h0 : n.natAbs = 0
  · rw [h0]; decide
  · have := (Nat.log2_lt h0).mpr h
    omega
theorem erase_perm {α : Type} : ∀ (l : List α) (i : Nat) (h : i < l.length), (l[i] :: l.eraseIdx i).Perm l
  | a :: l, 0, _ => .refl _
  | a :: l, i + 1, h => by
    have := erase_perm l i (by simpa using h)
    exact (List.Perm.swap _ _ _).trans (this.cons a)
/-- what take promises, to the laws' other helpers -/
def TakeP (P : Nat → Option Fn) (t d0 : Nat) : Prop := ∀ (n : Nat) (h : List CO) (Q : D → List CO → Prop) (X : Nat → List D → List CO → Prop) (m : Int) (l k : Nat), d0 ≤ n → 0 < m → m.natAbs.log2 < 9000 → Bx (k + 1) h l →
  (∀ i h', 0 ≤ i → i < m → Bx k h' l → Ot l h h' → Q (.int i) h') → CC P n t [.cell l, .int m] h Q X
theorem mixed_ok {t l k : Nat} {ds : List D} (hf : P f = some (fnMixed t)) (tk : TakeP P t 1) (hn : 2 ≤ n) (hx : Bx (k + ds.length) h l) (hl : ds.length ≤ 1000) (q : ∀ es h', es.Perm ds → Bx k h' l → Ot l h h' → Q (.lst es) h') : CC P n f [.cell l, .lst ds] h Q X := by
  refine CC_of hf (by omega) rfl ?_
  simp [fnMixed, startE, itD]
  have hz : (-16777216 : Int) < ds.length ∧ (ds.length : Int) < 16777216 := by omega
  simp [hz]
  refine ⟨by rw [sizeLine_eq]; omega, ?_⟩
  refine lcB_ok (CC_mono _) (fun i acc st => ∃ left h', st = ⟨[.shr (.cell l), .shr (.lst ds), .un, .own (.lst left)], h'⟩ ∧ (acc ++ left).Perm ds ∧ acc.length = i ∧ Bx (k + left.length) h' l ∧ Ot l h h') ⟨ds, h, rfl, by simp, rfl, hx, Ot.refl⟩ ?_ ?_
  · rintro i x acc st hi ⟨left, h', rfl, pm, la, bx, ot⟩
    have hil : i < ds.length := by simpa using lt_of_get hi
    have ll : left.length = ds.length - i := by
      have := pm.length_eq
      rw [List.length_append] at this
      omega
    simp
    refine callB_of (tk _ _ _ _ _ l (k + left.length - 1) (by omega) (by omega) (log2_lt (k := 20) (by omega) (by decide)) (bx.mono (by omega)) fun j h2 h20 h21 bx2 ot2 => ?_)
    obtain ⟨p, hp, ep⟩ := popAt_of h20 h21
    simp [ep]
    refine ⟨by rw [sizeLine_eq]; omega, ?_⟩
    refine Rcl_of ⟨left.eraseIdx p, h2, rfl, ?_, by simp [la], bx2.mono ?_, ot.trans ot2⟩
    · refine List.Perm.trans ?_ pm
      rw [List.append_assoc]
      exact (erase_perm left p hp).append_left acc
    · rw [List.length_eraseIdx_of_lt hp]
      omega
  · rintro acc st ⟨left, h', rfl, pm, la, bx, ot⟩
    have ll : left = [] := by
      have := pm.length_eq
      rw [List.length_append, la] at this
      simp at this
      exact this
    subst ll
    rw [List.append_nil] at pm
    exact q acc h' pm (bx.mono (by simp)) ot
end
theorem atI_all {p : D → Prop} {es : List D} {i : Int} (h : ∀ d ∈ es, p d) (h0 : 0 ≤ i) (h1 : i < es.length) : ∃ d, atI es i = some d ∧ p d := by
  obtain ⟨j, rfl⟩ := Int.eq_ofNat_of_zero_le h0
  have hj : j < es.length := by omega
  refine ⟨es[j], ?_, h _ (List.getElem_mem hj)⟩
  unfold atI ixN
  simp [hj]
theorem itD_range1 {n : Int} (h0 : -16777216 < n) (h1 : n < 16777216) : itD .range1 [.int n] = some ((List.range n.toNat).map fun (k : Nat) => D.int k) := if_pos ⟨h0, h1⟩
theorem cutL_map {α β : Type} {f : α → β} {l : List α} {lo hi : Option Int} : cutL (l.map f) lo hi = (cutL l lo hi).map f := by
  unfold cutL
  rw [List.map_take, List.map_drop, List.length_map]
theorem cutL_mem {α : Type} {l : List α} {lo hi : Option Int} {x : α} (h : x ∈ cutL l lo hi) : x ∈ l := List.mem_of_mem_drop (List.mem_of_mem_take h)
theorem cutL_len {α : Type} (l : List α) (lo hi : Option Int) : (cutL l lo hi).length ≤ l.length := by
  unfold cutL
  rw [List.length_take, List.length_drop]
  omega
end Mp
namespace Mp
open PySem PySem.Spec L2 TL
/-! texts, sign by sign -/
/-- without a minus at the head -/
def unm : List Nat → List Nat
  | 45 :: r => r
  | l => l
theorem unm_cons {r : List Nat} : unm (45 :: r) = r := rfl
theorem unm_ne {c : Nat} {r : List Nat} (h : c ≠ 45) : unm (c :: r) = c :: r := by
  unfold unm
  split
  · rename_i e; cases e; exact absurd rfl h
  · rfl
theorem tl_minus : tl (Str.ofString "-") = [45] := by decide +kernel
theorem subAt_tl (x y : Str) (i : Nat) : Builtin.Str.subAt x y i = decide (((tl x).drop i).take y.length = tl y) := by
  unfold Builtin.Str.subAt
  have e : (x.cps.extract i (i + y.length)).toList = ((tl x).drop i).take y.length := by
    simp [tl]
  rw [Bool.eq_iff_iff]
  simp only [beq_iff_eq, decide_eq_true_eq]
  rw [← e]
  exact ⟨fun h => by rw [h], fun h => Array.toList_inj.mp h⟩
theorem rmpre_tl (w : Str) : tl (Txt.removeprefix w "-") = unm (tl w) := by
  unfold Txt.removeprefix
  rw [subAt_tl]
  have l1 : (Str.ofString "-").length = 1 := by decide +kernel
  show tl (Txt.affix w (if decide (((tl w).drop 0).take (Str.ofString "-").length = tl (Str.ofString "-")) = true then some ((Str.ofString "-").length, w.length) else none)) = _
  rw [l1, tl_minus, List.drop_zero]
  cases hw : tl w with
  | nil =>
    simp [Txt.affix, unm, hw]
  | cons c r =>
    by_cases hc : c = 45
    · subst hc
      simp only [List.take_succ_cons, List.take_zero, decide_true, if_true, Txt.affix, unm_cons]
      have hl : w.length = r.length + 1 := by rw [len_tl, hw]; rfl
      have hne : ¬ (w.length - 1 == w.length) = true := by simp [hl]
      rw [if_neg hne, tl_strSub, hw, hl]
      simp
    · rw [unm_ne hc]
      simp [Txt.affix, hc, hw]
/-- the digit that a word writes -/
def digL : List Nat → Option Int
  | [c] => if 48 ≤ c ∧ c ≤ 57 then some ((c : Int) - 48) else none
  | [m, c] => if m = 45 ∧ 49 ≤ c ∧ c ≤ 57 then some (48 - (c : Int)) else none
  | _ => none
def optD : Option Int → D
  | none => .non
  | some i => .int i
theorem ten_tl : tl (Str.ofString "0123456789") = [48, 49, 50, 51, 52, 53, 54, 55, 56, 57] := by decide +kernel
theorem one_of {x : Str} {c : Nat} (h : tl x = [c]) : x = ⟨#[c]⟩ := ext_tl h
theorem found_ten {x : Str} {c : Nat} (h : tl x = [c]) : (Builtin.Str.occurrences (Str.ofString "0123456789") x 0 (Str.ofString "0123456789").length 1).isEmpty = !decide (48 ≤ c ∧ c ≤ 57) := by
  rw [one_of h]
  have e := PySem.StrLaws.found_one (Str.ofString "0123456789") c
  have e2 : decide (c ∈ (Str.ofString "0123456789").cps.toList) = decide (48 ≤ c ∧ c ≤ 57) := by
    have := ten_tl
    unfold tl at this
    rw [this]
    simp only [decide_eq_decide, List.mem_cons, List.not_mem_nil, or_false]
    omega
  rw [e2] at e
  rw [← e]
  simp
theorem index_ten {x : Str} {c : Nat} (h : tl x = [c]) (h1 : 48 ≤ c) (h2 : c ≤ 57) : Txt.index0 (Str.ofString "0123456789") x = some (c - 48) := by
  rw [one_of h]
  have : c = 48 ∨ c = 49 ∨ c = 50 ∨ c = 51 ∨ c = 52 ∨ c = 53 ∨ c = 54 ∨ c = 55 ∨ c = 56 ∨ c = 57 := by omega
  rcases this with rfl | rfl | rfl | rfl | rfl | rfl | rfl | rfl | rfl | rfl <;> decide +kernel
theorem eq_str {x y : Str} : (x = y) ↔ tl x = tl y := ⟨fun h => by rw [h], ext_tl⟩
theorem tl_mz : tl (Str.ofString "-0") = [45, 48] := by decide +kernel
theorem tl_dot : tl (Str.ofString ".") = [46] := by decide +kernel
theorem tl_blank : tl (Str.ofString " ") = [32] := by decide +kernel
theorem split_tl (x : Str) : (Txt.split x (Str.ofString " ")).map tl = spl [32] 0 [] (tl x) := by
  have := split_spl x (Str.ofString " ") (by rw [tl_blank]; simp) (kind_ok (by decide +kernel))
  rw [tl_blank] at this
  exact this
/-- all signs are signs -/
def okS (x : Str) : Prop := ∀ c ∈ tl x, c < 1114112
theorem okS.ok {x : Str} (h : okS x) : PyData.strOk x = true := by
  unfold PyData.strOk
  rw [Array.all_eq_true]
  intro i hi
  have := h x.cps[i] (by simp [tl])
  simpa using this
theorem okS.app {x y : Str} (h : okS x) (k : okS y) : okS (x ++ y) := fun c hc => by
  rw [tl_append] at hc
  exact (List.mem_append.mp hc).elim (h c) (k c)
theorem okS.cut {x : Str} (h : okS x) (lo hi : Option Int) : okS (cutS x lo hi) := fun c hc => by
  unfold cutS at hc
  rw [tl_mk] at hc
  exact h c (List.mem_of_mem_drop (List.mem_of_mem_take hc))
theorem spl_mem {S : List Nat} : ∀ {l acc : List Nat} {k : Nat} {p : List Nat} {c : Nat}, p ∈ spl S k acc l → c ∈ p → c ∈ acc ∨ c ∈ l
  | [], acc, k, p, c, h, hc => by
    rw [spl_nil] at h
    simp at h
    rw [h] at hc; exact .inl hc
  | a :: r, acc, 0, p, c, h, hc => by
    unfold spl at h
    split at h
    · rcases List.mem_cons.mp h with e | e
      · rw [e] at hc; exact .inl hc
      · rcases spl_mem e hc with z | z
        · cases z
        · exact .inr (List.mem_cons_of_mem _ z)
    · rcases spl_mem h hc with z | z
      · rcases List.mem_append.mp z with w | w
        · exact .inl w
        · exact .inr (by simp at w; simp [w])
      · exact .inr (List.mem_cons_of_mem _ z)
  | a :: r, acc, k + 1, p, c, h, hc => by
    unfold spl at h
    rcases spl_mem h hc with z | z
    · exact .inl z
    · exact .inr (List.mem_cons_of_mem _ z)
theorem okS.split {x w : Str} (h : okS x) (hw : w ∈ Txt.split x (Str.ofString " ")) : okS w := fun c hc => by
  have : tl w ∈ spl [32] 0 [] (tl x) := by rw [← split_tl]; exact List.mem_map_of_mem hw
  rcases spl_mem this hc with z | z
  · cases z
  · exact h c z
theorem joinL_mem {S : List Nat} : ∀ {ps : List (List Nat)} {c : Nat}, c ∈ joinL S ps → c ∈ S ∨ ∃ p ∈ ps, c ∈ p
  | [], c, h => by simp [joinL] at h
  | [p], c, h => .inr ⟨p, by simp, by simpa [joinL] using h⟩
  | p :: q :: r, c, h => by
    have h' : c ∈ p ++ S ++ joinL S (q :: r) := by simpa only [joinL, List.append_assoc] using h
    rcases List.mem_append.mp h' with z | z
    · rcases List.mem_append.mp z with z | z
      · exact .inr ⟨p, by simp, z⟩
      · exact .inl z
    · rcases joinL_mem z with z | ⟨p', h1, h2⟩
      · exact .inl z
      · exact .inr ⟨p', List.mem_cons_of_mem _ h1, h2⟩
theorem okS.join {ys : List Str} (h : ∀ y ∈ ys, okS y) : okS (Txt.join (Str.ofString " ") ys) := fun c hc => by
  rw [join_eq, tl_join, tl_blank] at hc
  rcases joinL_mem hc with z | ⟨p, h1, h2⟩
  · simp at z; omega
  · obtain ⟨y, hy, rfl⟩ := List.mem_map.mp h1
    exact h y hy c h2
theorem sIx_nat (n d k : Nat) : HT.sIx n d (some (k : Int)) = min k n := by
  unfold HT.sIx
  simp
  omega
theorem cut_take (w : Str) (k : Nat) : tl (cutS w none (some (k : Int))) = (tl w).take k := by
  unfold cutS
  rw [tl_mk, sIx_nat, len_tl]
  show List.take (min k (tl w).length - 0) (List.drop 0 (tl w)) = _
  rw [Nat.sub_zero, List.drop_zero, List.take_eq_take_iff]
  omega
theorem cut_drop (w : Str) (k : Nat) : tl (cutS w (some (k : Int)) none) = (tl w).drop k := by
  unfold cutS
  rw [tl_mk, sIx_nat, len_tl]
  show List.take ((tl w).length - min k (tl w).length) (List.drop (min k (tl w).length) (tl w)) = _
  rw [List.take_of_length_le (by rw [List.length_drop]; exact Nat.le_refl _)]
  by_cases h : k ≤ (tl w).length
  · rw [Nat.min_eq_left h]
  · rw [List.drop_eq_nil_of_le (by omega), List.drop_eq_nil_of_le (by omega)]
theorem cut_none (w : Str) : cutS w (some 0) none = w := by
  have := cut_drop w 0
  exact ext_tl (by simpa using this)
/-- xs[:k], xs[k:] of lists -/
theorem cutL_take {α : Type} (l : List α) (k : Nat) : cutL l none (some (k : Int)) = l.take k := by
  unfold cutL
  rw [sIx_nat]
  show List.take (min k l.length - 0) (List.drop 0 l) = _
  rw [Nat.sub_zero, List.drop_zero, List.take_eq_take_iff]
  omega
theorem cutL_drop {α : Type} (l : List α) (k : Nat) : cutL l (some (k : Int)) none = l.drop k := by
  unfold cutL
  rw [sIx_nat]
  show List.take (l.length - min k l.length) (List.drop (min k l.length) l) = _
  rw [List.take_of_length_le (by rw [List.length_drop]; exact Nat.le_refl _)]
  by_cases h : k ≤ l.length
  · rw [Nat.min_eq_left h]
  · rw [List.drop_eq_nil_of_le (by omega), List.drop_eq_nil_of_le (by omega)]
theorem find_ten {x : Str} {c : Nat} (h : tl x = [c]) (h1 : 48 ≤ c) (h2 : c ≤ 57) : Txt.find (Str.ofString "0123456789") x = (c : Int) - 48 := by
  rw [one_of h]
  have : c = 48 ∨ c = 49 ∨ c = 50 ∨ c = 51 ∨ c = 52 ∨ c = 53 ∨ c = 54 ∨ c = 55 ∨ c = 56 ∨ c = 57 := by omega
  rcases this with rfl | rfl | rfl | rfl | rfl | rfl | rfl | rfl | rfl | rfl <;> decide +kernel
theorem okS.of {x : Str} (h : (tl x).all (· < 1114112) = true) : okS x := fun c hc => by simpa using List.all_eq_true.mp h c hc
theorem strsD_app {xs : List Str} {ds : List D} : strsD (xs.map D.str ++ ds) = (strsD ds).map (xs ++ ·) := by
  induction xs with
  | nil => simp
  | cons x xs ih =>
    simp only [List.map_cons, List.cons_append, strsD_cons, ih, Option.map_map]
    rfl
theorem sum_le {B : Nat} : ∀ {ys : List Str}, (∀ y ∈ ys, y.length ≤ B) → (ys.map (·.length)).sum ≤ B * ys.length
  | [], _ => by simp
  | y :: ys, h => by
    have h1 := h y (by simp)
    have h2 := sum_le (ys := ys) fun z hz => h z (by simp [hz])
    simp only [List.map_cons, List.sum_cons, List.length_cons, Nat.mul_succ]
    omega
theorem join_len {ys : List Str} : (Txt.join (Str.ofString " ") ys).length ≤ (ys.map (·.length)).sum + ys.length := by
  have := PySem.StrLaws.join_length_le (Str.ofString " ") ys
  rw [show (Str.ofString " ").length = 1 by decide +kernel, Nat.mul_one] at this
  rw [join_eq]
  exact this
theorem cutS_len (w : Str) (lo hi : Option Int) : (cutS w lo hi).length ≤ w.length := cutS_length w lo hi
theorem len_app (x y : Str) : (x ++ y).length = x.length + y.length := Str.length_append x y
end Mp
/-! the package's functions of digits and rows -/
namespace Mp
open PySem PySem.Spec L2 TL
def isInD : D → Int → Int → Bool
  | .int i, lo, hi => decide (lo ≤ i) && decide (i ≤ hi)
  | _, _, _ => false
def isBase : D → Bool
  | .int i => decide (-6 ≤ i) && decide (i ≤ 6) && (decide (1 < i) || decide (i < -1))
  | _ => false
abbrev isDig (d : D) : Bool := isInD d (-9) 9
def areDig : D → Bool
  | .tup ds => ds.all isDig
  | _ => false
theorem optD_ok (o : Option Int) : ∃ k, truD (optD o) = some k := by cases o <;> exact ⟨_, rfl⟩
theorem blsD_mapF {α : Type} {f : α → Bool} {l : List α} : blsD (l.map fun x => D.bl (f x)) = some (l.map f) := by
  induction l with
  | nil => rfl
  | cons x l ih => simp [ih]
theorem strsD_mapF {α : Type} {f : α → Str} {l : List α} : strsD (l.map fun x => D.str (f x)) = some (l.map f) := by
  induction l with
  | nil => rfl
  | cons x l ih => simp [ih]
theorem intsD_mapF {α : Type} {f : α → Int} {l : List α} : intsD (l.map fun x => D.int (f x)) = some (l.map f) := by
  induction l with
  | nil => rfl
  | cons x l ih => simp [ih]
theorem Q_iff {h : List CO} {Q : D → List CO → Prop} {a b : D} (e : a = b) : Q a h ↔ Q b h := by rw [e]
/-- the functions of the package are where they are -/
structure HL (P : Nat → Option Fn) : Prop where
  l : ∀ f, f < 1000 → P f = Lib f
section
variable {P : Nat → Option Fn} (hP : HL P) {n : Nat} {h : List CO} {Q : D → List CO → Prop} {X : Nat → List D → List CO → Prop} {u : Hd (CC P n)} {v : Hd Q} {w : Hd X}
include hP
theorem is_integer_eq {d : D} {lo hi : Int} (hn : 1 ≤ n) (hv : tyOk d = true) : CC P n 0 [d, .int lo, .int hi] h Q X = Q (.bl (isInD d lo hi)) h := by
  rw [CC_eq (fn := fn_is_integer) (hP.l 0 (by decide)) hn rfl]
  simp [fn_is_integer, startE, view_ok hv, hv]
  cases d with
  | int i =>
    simp [tyD, isInD]
    by_cases h1 : lo ≤ i <;> simp [h1]
  | cell l => cases hv
  | exc c d => cases hv
  | scr d => cases hv
  | _ => simp [tyD, isInD]
theorem is_base_eq {d : D} (hn : 2 ≤ n) (hv : tyOk d = true) : CC P n 1 [d] h Q X = Q (.bl (isBase d)) h := by
  rw [CC_eq (fn := fn_is_base) (hP.l 1 (by decide)) (by omega) rfl]
  simp [fn_is_base, startE, callB]
  rw [is_integer_eq hP (by omega) hv]
  cases d with
  | int i =>
    simp [isInD, isBase]
    split
    · rename_i h1
      refine Q_iff (congrArg D.bl (Bool.eq_iff_iff.mpr ?_))
      simp
      split <;> omega
    · rename_i h1
      refine Q_iff (congrArg D.bl (Bool.eq_iff_iff.mpr ?_))
      simp
      omega
  | cell l => cases hv
  | exc c d => cases hv
  | scr d => cases hv
  | _ => simp [isInD, isBase]
theorem is_digit_eq {d : D} (hn : 2 ≤ n) (hv : tyOk d = true) : CC P n 2 [d] h Q X = Q (.bl (isDig d)) h := by
  rw [CC_eq (fn := fn_is_digit) (hP.l 2 (by decide)) (by omega) rfl]
  simp [fn_is_digit, startE, callB]
  rw [is_integer_eq hP (by omega) hv]
theorem are_digits_eq {d : D} (hn : 3 ≤ n) (hv : tyOk d = true) (hs : ∀ ds, d = .tup ds → (∀ x ∈ ds, tyOk x = true) ∧ ds.length ≤ sizeLine) : CC P n 3 [d] h Q X = Q (.bl (areDig d)) h := by
  rw [CC_eq (fn := fn_are_digits) (hP.l 3 (by decide)) (by omega) rfl]
  simp [fn_are_digits, startE, view_ok hv, hv]
  cases d with
  | tup ds =>
    obtain ⟨h1, h2⟩ := hs ds rfl
    simp [tyD, itD, h2]
    rw [lcB_map (fun x => .bl (isDig x)) (fun x hx R => ?_)]
    · simp [blsD_mapF, areDig]
    · simp [callB]
      rw [is_digit_eq hP (by omega) (h1 x hx)]
  | cell l => cases hv
  | exc c d => cases hv
  | scr d => cases hv
  | _ => simp [tyD, areDig]
theorem digit_of_eq {x : Str} (hn : 1 ≤ n) (hl : x.length ≤ sizeLine) : CC P n 5 [.str x] h Q X = Q (optD (digL (tl x))) h := by
  rw [CC_eq (fn := fn_digit_of) (hP.l 5 (by decide)) (by omega) rfl]
  simp [fn_digit_of, startE, hl]
  have hr := rmpre_tl x
  have hl2 : (Txt.removeprefix x (Str.ofString "-")).length = (unm (tl x)).length := by rw [len_tl, hr]
  generalize Txt.removeprefix x (Str.ofString "-") = f at *
  have hle : f.length ≤ sizeLine := by
    refine Nat.le_trans ?_ hl
    rw [hl2, len_tl]
    cases tl x with
    | nil => simp [unm]
    | cons c r => by_cases hc : c = 45
                  · subst hc; simp [unm]
                  · rw [unm_ne hc]; exact Nat.le_refl _
  simp [hle]
  have occ : ∀ {c : Nat}, tl f = [c] → (Builtin.Str.occurrences (Str.ofString "0123456789") f 0 (Str.ofString "0123456789").length 1 = [] ↔ ¬ (48 ≤ c ∧ c ≤ 57)) := fun {c} hc => by
    rw [← List.isEmpty_iff, found_ten hc]
    simp
    omega
  cases hx : tl x with
  | nil =>
    rw [hx] at hl2
    simp [hl2, unm, digL, optD]
  | cons a r =>
    rw [hx] at hr hl2
    by_cases ha : a = 45
    · subst ha
      rw [unm_cons] at hr hl2
      cases r with
      | nil => simp [hl2, digL, optD]
      | cons c r =>
        cases r with
        | cons d r => simp [hl2, digL, optD]; omega
        | nil =>
          have e1 : ¬ f = x := fun z => by rw [z, hx] at hr; simp at hr
          have e2 : (x = Str.ofString "-0") ↔ c = 48 := by rw [eq_str, hx, tl_mz]; simp
          simp [hl2, occ hr, e1, e2]
          by_cases h1 : 48 ≤ c ∧ c ≤ 57
          · simp [h1, index_ten hr h1.1 h1.2]
            by_cases h2 : c = 48
            · subst h2; simp [digL, optD]
            · have h3 : 49 ≤ c := by omega
              have h5 : ¬ 57 < c := by omega
              simp [h2, digL, h3, h1.2, optD, h5]
              refine Q_iff (congrArg D.int ?_)
              omega
          · have h3 : ¬ (49 ≤ c ∧ c ≤ 57) := by omega
            have h4 : ¬ (48 ≤ c) ∨ ¬ c ≤ 57 := by omega
            have : 48 ≤ c → 57 < c := by omega
            simp [digL, optD, h3]
            intro z1 z2; omega
    · rw [unm_ne ha] at hr hl2
      cases r with
      | nil =>
        have e1 : f = x := by rw [eq_str, hr, hx]
        have e2 : ¬ (x = Str.ofString "-0") := by rw [eq_str, hx, tl_mz]; simp
        subst e1
        have oc := occ hr
        have fl : (f.length : Int) = 1 := by rw [hl2]; rfl
        simp only [oc, fl, e2, if_true, if_false]
        by_cases h1 : 48 ≤ a ∧ a ≤ 57
        · simp [h1, index_ten hr h1.1 h1.2, digL, optD]
          refine Q_iff (congrArg D.int ?_)
          omega
        · rw [if_pos h1]
          simp [digL, optD, h1]
      | cons c r =>
        cases r with
        | nil => simp [hl2, digL, optD, ha]
        | cons d r => simp [hl2, digL, optD]; omega
end
/-- all are there -/
def allO : List (Option Int) → Option (List Int)
  | [] => some []
  | none :: _ => none
  | some i :: l => (allO l).map (i :: ·)
/-- the row that a text writes -/
def rowL (t : Str) : Option (List Int) := if t = Str.ofString "." then some [] else allO ((spl [32] 0 [] (tl t)).map digL)
def rowD : Option (List Int) → D
  | none => .non
  | some l => .tup (l.map D.int)
theorem spl_len {S : List Nat} : ∀ {l acc : List Nat} {k : Nat} {p : List Nat}, p ∈ spl S k acc l → p.length ≤ acc.length + l.length
  | [], acc, k, p, h => by
    rw [spl_nil] at h
    simp at h
    rw [h]; exact Nat.le_add_right _ _
  | c :: r, acc, 0, p, h => by
    unfold spl at h
    split at h
    · rcases List.mem_cons.mp h with e | e
      · rw [e]; exact Nat.le_add_right _ _
      · have := spl_len e
        simp at this ⊢
        omega
    · have := spl_len h
      simp at this ⊢
      omega
  | c :: r, acc, k + 1, p, h => by
    unfold spl at h
    have := spl_len h
    simp at this ⊢
    omega
theorem word_len {t w : Str} (h : w ∈ Txt.split t (Str.ofString " ")) : w.length ≤ t.length := by
  have : tl w ∈ spl [32] 0 [] (tl t) := by rw [← split_tl]; exact List.mem_map_of_mem h
  have := spl_len this
  rw [len_tl, len_tl]
  simpa using this
theorem allO_none {l : List (Option Int)} : (l.any fun z => eqD (optD z) .non) = (allO l).isNone := by
  induction l with
  | nil => rfl
  | cons a l ih =>
    cases a with
    | none => simp [allO, optD, eqD]
    | some i =>
      simp only [List.any_cons, ih, allO]
      cases allO l <;> simp [optD, eqD]
theorem allO_some : ∀ {l : List (Option Int)} {r : List Int}, allO l = some r → l.map optD = r.map D.int
  | [], r, h => by cases h; rfl
  | none :: l, r, h => by cases h
  | some i :: l, r, h => by
    unfold allO at h
    cases e : allO l with
    | none => rw [e] at h; cases h
    | some q => rw [e] at h; cases h; simp [allO_some e, optD]
theorem flat_optD {l : List (Option Int)} : flatDs 50 (l.map optD) = true := by
  induction l with
  | nil => rfl
  | cons a l ih => cases a <;> simp [flatDs, flatD, optD, ih]
def intD : D → Int
  | .int i => i
  | _ => 0
/-- a digit's text -/
def digT (i : Int) : List Nat := if 0 ≤ i then [48 + i.toNat] else [45, 48 + (-i).toNat]
theorem tl_digT {i : Int} (h1 : -9 ≤ i) (h2 : i ≤ 9) : tl (digS i) = digT i := by
  have key : ∀ k : Fin 19, tl (digS ((k.val : Int) - 9)) = digT ((k.val : Int) - 9) := by decide +kernel
  have e : (((i + 9).toNat : Nat) : Int) - 9 = i := by omega
  have := key ⟨(i + 9).toNat, by omega⟩
  simp only [e] at this
  exact this
theorem digT_len {i : Int} (h1 : -9 ≤ i) (h2 : i ≤ 9) : (digS i).length ≤ 2 := by
  rw [len_tl, tl_digT h1 h2]
  unfold digT
  split <;> simp
theorem digL_digT {i : Int} (h1 : -9 ≤ i) (h2 : i ≤ 9) : digL (digT i) = some i := by
  unfold digT
  split
  · have h3 : 48 + i.toNat ≤ 57 := by omega
    simp [digL, h3]
    omega
  · have h3 : 48 + (-i).toNat ≤ 57 := by omega
    have h4 : 49 ≤ 48 + (-i).toNat := by omega
    simp only [digL, h3, h4, and_self, if_true]
    congr 1
    omega
theorem sum_len {α : Type} {f : α → Str} : ∀ {l : List α}, (∀ i ∈ l, (f i).length ≤ 2) → ((l.map f).map (·.length)).sum ≤ 2 * l.length
  | [], _ => by simp
  | a :: l, h => by
    have h1 := h a (by simp)
    have h2 := sum_len (l := l) fun i hi => h i (by simp [hi])
    simp only [List.map_cons, List.sum_cons, List.length_cons] at h2 ⊢
    omega
def strD : D → Str
  | .str x => x
  | _ => Str.empty
section
variable {P : Nat → Option Fn} (hP : HL P) {n : Nat} {h : List CO} {Q : D → List CO → Prop} {X : Nat → List D → List CO → Prop}
include hP
theorem row_of_eq {t : Str} (hn : 2 ≤ n) (hl : t.length + 2 ≤ sizeLine) : CC P n 6 [.str t] h Q X = Q (rowD (rowL t)) h := by
  rw [CC_eq (fn := fn_row_of) (hP.l 6 (by decide)) (by omega) rfl]
  have b1 : ((Str.ofString " ").length == 0) = false := by decide +kernel
  have b2 : (Txt.split t (Str.ofString " ")).length ≤ sizeLine := Nat.le_trans (PyProof.Rows.fact_split t (Str.ofString " ")).2 hl
  simp [fn_row_of, startE, itD, b1, b2, hl]
  by_cases ht : t = Str.ofString "."
  · simp [ht, rowL, rowD]
  · rw [if_neg ht, lcB_map (fun x => optD (digL (tl (strD x)))) (fun x hx R => ?_)]
    · simp only [List.map_map]
      have e : List.map ((fun x => optD (digL (tl (strD x)))) ∘ D.str) (Txt.split t (Str.ofString " ")) = ((spl [32] 0 [] (tl t)).map digL).map optD := by
        rw [← split_tl]
        simp [strD]
      rw [e]
      have e2 := allO_none (l := (spl [32] 0 [] (tl t)).map digL)
      have e3 := flat_optD (l := (spl [32] 0 [] (tl t)).map digL)
      simp only [rowL, ht, if_false]
      generalize (spl [32] 0 [] (tl t)).map digL = ws at *
      simp [e3, flatD]
      cases ea : allO ws with
      | none =>
        rw [ea] at e2
        simp only [Option.isNone_none, List.any_eq_true] at e2
        obtain ⟨x, hx, hz⟩ := e2
        simp [rowD]
        intro z
        rw [z x hx] at hz
        cases hz
      | some r =>
        rw [ea] at e2
        simp only [Option.isNone_some, List.any_eq_false] at e2
        simp [rowD, allO_some ea]
        intro x hx hz
        exact absurd hz (e2 x hx)
    · obtain ⟨w, hw, rfl⟩ := List.mem_map.mp hx
      have := word_len hw
      simp [callB]
      rw [digit_of_eq hP (by omega) (by omega)]
      rfl
theorem read_row_str {t : Str} (hn : 3 ≤ n) (hl : t.length + 2 ≤ sizeLine) : CC P n 7 [.str t] h Q X = (match rowL t with
    | some l => Q (.tup (l.map D.int)) h
    | none => X 105 [.str t] h) := by
  rw [CC_eq (fn := fn_read_row) (hP.l 7 (by decide)) (by omega) rfl]
  simp [fn_read_row, startE, tyOk, tyD, callB]
  rw [row_of_eq hP (by omega) hl]
  cases rowL t with
  | none => simp [rowD, isNonD]
  | some l => simp [rowD, isNonD]
theorem read_row_oth {d : D} (hn : 3 ≤ n) (hv : tyOk d = true) (hd : tyD d .str = false) : CC P n 7 [d] h Q X = X 105 [d] h := by
  rw [CC_eq (fn := fn_read_row) (hP.l 7 (by decide)) (by omega) rfl]
  simp [fn_read_row, startE, view_ok hv, hv, hd, isNonD]
/-- the text of a row -/
def rowT (l : List Int) : Str := if l = [] then Str.ofString "." else Txt.join (Str.ofString " ") (l.map digS)
theorem row_text_bad {d : D} (hn : 4 ≤ n) (hv : tyOk d = true) (hs : ∀ ds, d = .tup ds → (∀ x ∈ ds, tyOk x = true) ∧ ds.length ≤ sizeLine) (hd : areDig d = false) : CC P n 4 [d] h Q X = X 104 [d] h := by
  rw [CC_eq (fn := fn_row_text) (hP.l 4 (by decide)) (by omega) rfl]
  simp [fn_row_text, startE, callB]
  rw [are_digits_eq hP (by omega) hv hs]
  simp [hd]
theorem are_digits_oth {d : D} (hn : 1 ≤ n) (hv : tyOk (view h d) = true) (hd : tyD (view h d) .tuple = false) : CC P n 3 [d] h Q X = Q (.bl false) h := by
  rw [CC_eq (fn := fn_are_digits) (hP.l 3 (by decide)) (by omega) rfl]
  simp [fn_are_digits, startE, hv, hd]
theorem row_text_oth {d : D} (hn : 2 ≤ n) (hv : tyOk (view h d) = true) (hd : tyD (view h d) .tuple = false) : CC P n 4 [d] h Q X = X 104 [d] h := by
  rw [CC_eq (fn := fn_row_text) (hP.l 4 (by decide)) (by omega) rfl]
  simp [fn_row_text, startE, callB]
  rw [are_digits_oth hP (by omega) hv hd]
  simp
theorem row_text_eq {l : List Int} (hn : 4 ≤ n) (hl : ∀ i ∈ l, -9 ≤ i ∧ i ≤ 9) (hs : l.length ≤ 1000) : CC P n 4 [.tup (l.map D.int)] h Q X = Q (.str (rowT l)) h := by
  rw [CC_eq (fn := fn_row_text) (hP.l 4 (by decide)) (by omega) rfl]
  simp [fn_row_text, startE, callB]
  rw [are_digits_eq hP (by omega) rfl (fun ds e => by
    cases e
    refine ⟨fun x hx => ?_, by rw [List.length_map, sizeLine_eq]; omega⟩
    obtain ⟨i, _, rfl⟩ := List.mem_map.mp hx
    rfl)]
  have hd : areDig (.tup (l.map D.int)) = true := by
    simp only [areDig, List.all_eq_true]
    intro x hx
    obtain ⟨i, hi, rfl⟩ := List.mem_map.mp hx
    simp [isInD, hl i hi]
  simp [hd, itD]
  by_cases h0 : l = []
  · simp [h0, rowT]
  have h1 : l.length ≠ 0 := fun z => h0 (List.length_eq_zero_iff.mp z)
  have h2 : 0 < l.length := by omega
  have h3 : l.length ≤ sizeLine := by rw [sizeLine_eq]; omega
  simp [h2, h3]
  rw [lcB_map (fun x => .str (digS (intD x))) (fun x hx R => ?_)]
  · simp only [List.map_map]
    have e : List.map ((fun x => D.str (digS (intD x))) ∘ D.int) l = (l.map digS).map D.str := by simp [intD]
    rw [e]
    have e2 := strsD_map (l.map digS)
    have e3 : ((l.map digS).map (·.length)).sum ≤ 2 * l.length := sum_len fun i hi => (digT_len (hl i hi).1 (hl i hi).2)
    have e4 : (Str.ofString " ").length = 1 := by decide +kernel
    have e5 : (l.map digS).length = l.length := by simp
    unfold rowT
    rw [if_neg h0]
    generalize (l.map digS) = ys at *
    simp [e2, e4, e5]
    intro _
    omega
  · obtain ⟨i, hi, rfl⟩ := List.mem_map.mp hx
    have := hl i hi
    have lg : i.natAbs.log2 < 1920 := by
      have := log2_lt' (n := i) (k := 4) (by omega)
      omega
    simp [intD, lg]
end
theorem digT_free {i : Int} (h1 : -9 ≤ i) (h2 : i ≤ 9) : 32 ∉ digT i := by
  unfold digT
  split <;> simp <;> omega
theorem tl_rowT {l : List Int} (hl : ∀ i ∈ l, -9 ≤ i ∧ i ≤ 9) (h0 : l ≠ []) : tl (rowT l) = joinL [32] (l.map digT) := by
  unfold rowT
  rw [if_neg h0, join_eq, tl_join, tl_blank]
  congr 1
  rw [List.map_map]
  exact List.map_congr_left fun i hi => tl_digT (hl i hi).1 (hl i hi).2
theorem allO_map {l : List Int} : allO (l.map some) = some l := by
  induction l with
  | nil => rfl
  | cons a l ih => simp [allO, ih]
theorem rowL_rowT {l : List Int} (hl : ∀ i ∈ l, -9 ≤ i ∧ i ≤ 9) : rowL (rowT l) = some l := by
  by_cases h0 : l = []
  · subst h0; simp [rowT, rowL]
  · have ht := tl_rowT hl h0
    have hd : ¬ rowT l = Str.ofString "." := by
      rw [eq_str, ht, tl_dot]
      cases l with
      | nil => exact absurd rfl h0
      | cons a l =>
        have := hl a (by simp)
        cases l with
        | nil => simp [joinL, digT]; split <;> simp; omega
        | cons b l => simp [joinL, digT]; split <;> simp
    unfold rowL
    rw [if_neg hd, ht, spl_join (by simpa using h0) (by
      intro p hp
      obtain ⟨i, hi, rfl⟩ := List.mem_map.mp hp
      exact digT_free (hl i hi).1 (hl i hi).2)]
    rw [List.map_map]
    have : List.map (digL ∘ digT) l = l.map some := List.map_congr_left fun i hi => digL_digT (hl i hi).1 (hl i hi).2
    rw [this, allO_map]
theorem flat_ints (k : Nat) (l : List Int) : flatDs k (l.map D.int) = true := by
  induction l with
  | nil => cases k <;> rfl
  | cons a l ih => simp [flatDs, flatD, ih]
theorem eqDs_ints (l : List Int) : eqDs (l.map D.int) (l.map D.int) = true := by
  induction l with
  | nil => simp
  | cons a l ih => simp [ih]
theorem rowT_ok {l : List Int} (hl : ∀ i ∈ l, -9 ≤ i ∧ i ≤ 9) : okS (rowT l) ∧ (rowT l).length ≤ 3 * l.length + 1 := by
  unfold rowT
  split
  · rename_i h; subst h; exact ⟨.of (by decide +kernel), by decide +kernel⟩
  · refine ⟨.join fun y hy => ?_, ?_⟩
    · obtain ⟨i, hi, rfl⟩ := List.mem_map.mp hy
      intro c hc
      rw [tl_digT (hl i hi).1 (hl i hi).2] at hc
      have := hl i hi
      unfold digT at hc
      split at hc <;> simp at hc <;> omega
    · have e3 : ((l.map digS).map (·.length)).sum ≤ 2 * l.length := sum_len fun i hi => (digT_len (hl i hi).1 (hl i hi).2)
      have := join_len (ys := l.map digS)
      have e5 : (l.map digS).length = l.length := by simp
      omega
theorem flatDs_app {k : Nat} {a b : List D} : flatDs k (a ++ b) = (flatDs k a && flatDs k b) := by
  induction a with
  | nil => cases k <;> simp [flatDs]
  | cons x a ih => simp [flatDs, ih, Bool.and_assoc]
theorem eqDs_app : ∀ {a b c : List D}, eqDs (a ++ b) (a ++ c) = (eqDs a a && eqDs b c)
  | [], b, c => by simp
  | x :: a, b, c => by simp [eqDs_app (a := a), Bool.and_assoc]
mutual
theorem flatD_up : ∀ {d : D} {k : Nat}, flatD k d = true → flatD (k + 1) d = true
  | .non, _, _ => by simp [flatD]
  | .bl _, _, _ => by simp [flatD]
  | .int _, _, _ => by simp [flatD]
  | .str _, _, h => by simpa [flatD] using h
  | .tup ds, 0, h => by simp [flatD] at h
  | .tup ds, k + 1, h => by
    simp only [flatD] at h ⊢
    exact flatDs_up h
  | .lst ds, 0, h => by simp [flatD] at h
  | .lst ds, k + 1, h => by
    simp only [flatD] at h ⊢
    exact flatDs_up h
  | .dic _ _, _, h => by simp [flatD] at h
  | .obj _ _, _, h => by simp [flatD] at h
  | .exc _ _, _, h => by simp [flatD] at h
  | .cell _, _, h => by simp [flatD] at h
  | .scr _, _, h => by simp [flatD] at h
theorem flatDs_up : ∀ {ds : List D} {k : Nat}, flatDs k ds = true → flatDs (k + 1) ds = true
  | [], _, _ => by simp [flatDs]
  | d :: ds, k, h => by
    simp only [flatDs, Bool.and_eq_true] at h ⊢
    exact ⟨flatD_up h.1, flatDs_up h.2⟩
end
end Mp
/-! the package's schemes -/
namespace Mp
open PySem PySem.Spec L2 TL
@[simp] theorem ty_non_int : tyD .non .int = false := rfl
@[simp] theorem ty_non_bool : tyD .non .bool = false := rfl
@[simp] theorem ty_non_str : tyD .non .str = false := rfl
@[simp] theorem ty_non_list : tyD .non .list = false := rfl
@[simp] theorem ty_non_tuple : tyD .non .tuple = false := rfl
@[simp] theorem ty_non_dict : tyD .non .dict = false := rfl
@[simp] theorem tyo_non : tyOk .non = true := rfl
@[simp] theorem ty_non_own {k : Nat} : tyD .non (.own k) = false := rfl
@[simp] theorem ty_bl_int {b : Bool} : tyD (.bl b) .int = true := rfl
@[simp] theorem ty_bl_bool {b : Bool} : tyD (.bl b) .bool = true := rfl
@[simp] theorem ty_bl_str {b : Bool} : tyD (.bl b) .str = false := rfl
@[simp] theorem ty_bl_list {b : Bool} : tyD (.bl b) .list = false := rfl
@[simp] theorem ty_bl_tuple {b : Bool} : tyD (.bl b) .tuple = false := rfl
@[simp] theorem ty_bl_dict {b : Bool} : tyD (.bl b) .dict = false := rfl
@[simp] theorem tyo_bl {b : Bool} : tyOk (.bl b) = true := rfl
@[simp] theorem ty_bl_own {b : Bool} {k : Nat} : tyD (.bl b) (.own k) = false := rfl
@[simp] theorem ty_int_int {i : Int} : tyD (.int i) .int = true := rfl
@[simp] theorem ty_int_bool {i : Int} : tyD (.int i) .bool = false := rfl
@[simp] theorem ty_int_str {i : Int} : tyD (.int i) .str = false := rfl
@[simp] theorem ty_int_list {i : Int} : tyD (.int i) .list = false := rfl
@[simp] theorem ty_int_tuple {i : Int} : tyD (.int i) .tuple = false := rfl
@[simp] theorem ty_int_dict {i : Int} : tyD (.int i) .dict = false := rfl
@[simp] theorem tyo_int {i : Int} : tyOk (.int i) = true := rfl
@[simp] theorem ty_int_own {i : Int} {k : Nat} : tyD (.int i) (.own k) = false := rfl
@[simp] theorem ty_str_int {x : Str} : tyD (.str x) .int = false := rfl
@[simp] theorem ty_str_bool {x : Str} : tyD (.str x) .bool = false := rfl
@[simp] theorem ty_str_str {x : Str} : tyD (.str x) .str = true := rfl
@[simp] theorem ty_str_list {x : Str} : tyD (.str x) .list = false := rfl
@[simp] theorem ty_str_tuple {x : Str} : tyD (.str x) .tuple = false := rfl
@[simp] theorem ty_str_dict {x : Str} : tyD (.str x) .dict = false := rfl
@[simp] theorem tyo_str {x : Str} : tyOk (.str x) = true := rfl
@[simp] theorem ty_str_own {x : Str} {k : Nat} : tyD (.str x) (.own k) = false := rfl
@[simp] theorem ty_tup_int {ds : List D} : tyD (.tup ds) .int = false := rfl
@[simp] theorem ty_tup_bool {ds : List D} : tyD (.tup ds) .bool = false := rfl
@[simp] theorem ty_tup_str {ds : List D} : tyD (.tup ds) .str = false := rfl
@[simp] theorem ty_tup_list {ds : List D} : tyD (.tup ds) .list = false := rfl
@[simp] theorem ty_tup_tuple {ds : List D} : tyD (.tup ds) .tuple = true := rfl
@[simp] theorem ty_tup_dict {ds : List D} : tyD (.tup ds) .dict = false := rfl
@[simp] theorem tyo_tup {ds : List D} : tyOk (.tup ds) = true := rfl
@[simp] theorem ty_tup_own {ds : List D} {k : Nat} : tyD (.tup ds) (.own k) = false := rfl
@[simp] theorem ty_lst_int {ds : List D} : tyD (.lst ds) .int = false := rfl
@[simp] theorem ty_lst_bool {ds : List D} : tyD (.lst ds) .bool = false := rfl
@[simp] theorem ty_lst_str {ds : List D} : tyD (.lst ds) .str = false := rfl
@[simp] theorem ty_lst_list {ds : List D} : tyD (.lst ds) .list = true := rfl
@[simp] theorem ty_lst_tuple {ds : List D} : tyD (.lst ds) .tuple = false := rfl
@[simp] theorem ty_lst_dict {ds : List D} : tyD (.lst ds) .dict = false := rfl
@[simp] theorem tyo_lst {ds : List D} : tyOk (.lst ds) = true := rfl
@[simp] theorem ty_lst_own {ds : List D} {k : Nat} : tyD (.lst ds) (.own k) = false := rfl
@[simp] theorem ty_dic_int {ks vs : List D} : tyD (.dic ks vs) .int = false := rfl
@[simp] theorem ty_dic_bool {ks vs : List D} : tyD (.dic ks vs) .bool = false := rfl
@[simp] theorem ty_dic_str {ks vs : List D} : tyD (.dic ks vs) .str = false := rfl
@[simp] theorem ty_dic_list {ks vs : List D} : tyD (.dic ks vs) .list = false := rfl
@[simp] theorem ty_dic_tuple {ks vs : List D} : tyD (.dic ks vs) .tuple = false := rfl
@[simp] theorem ty_dic_dict {ks vs : List D} : tyD (.dic ks vs) .dict = true := rfl
@[simp] theorem tyo_dic {ks vs : List D} : tyOk (.dic ks vs) = true := rfl
@[simp] theorem ty_dic_own {ks vs : List D} {k : Nat} : tyD (.dic ks vs) (.own k) = false := rfl
@[simp] theorem ty_obj_int {c : Nat} {ds : List D} : tyD (.obj c ds) .int = false := rfl
@[simp] theorem ty_obj_bool {c : Nat} {ds : List D} : tyD (.obj c ds) .bool = false := rfl
@[simp] theorem ty_obj_str {c : Nat} {ds : List D} : tyD (.obj c ds) .str = false := rfl
@[simp] theorem ty_obj_list {c : Nat} {ds : List D} : tyD (.obj c ds) .list = false := rfl
@[simp] theorem ty_obj_tuple {c : Nat} {ds : List D} : tyD (.obj c ds) .tuple = false := rfl
@[simp] theorem ty_obj_dict {c : Nat} {ds : List D} : tyD (.obj c ds) .dict = false := rfl
@[simp] theorem tyo_obj {c : Nat} {ds : List D} : tyOk (.obj c ds) = true := rfl
@[simp] theorem ty_obj_own {c k : Nat} {ds : List D} : tyD (.obj c ds) (.own k) = (c == k) := rfl
@[simp] theorem it_seqL {ds : List D} : itD .seq [.lst ds] = some ds := rfl
@[simp] theorem it_seqT {ds : List D} : itD .seq [.tup ds] = some ds := rfl
@[simp] theorem it_seqC {ds : List D} : itD .seq [.scr ds] = some ds := rfl
theorem cellsLt_get {n : Nat} : ∀ {ds : List D} {d : D}, cellsLts n ds = true → d ∈ ds → cellsLt n d = true
  | [], _, _, h => by cases h
  | x :: ds, d, h, hm => by
    simp only [cellsLts, Bool.and_eq_true] at h
    rcases List.mem_cons.mp hm with e | e
    · rw [e]; exact h.1
    · exact cellsLt_get h.2 e
/-- a longer heap shows the same -/
theorem view_app {h g : List CO} {d : D} (hd : cellsLt h.length d = true) : view (h ++ g) d = view h d := by
  cases d with
  | cell l =>
    have hl : l < h.length := by simpa [cellsLt] using hd
    show (match (h ++ g)[l]? with | some (.lst ds) => D.lst ds | some (.dic ks vs) => .dic ks vs | some (.obj c ds) => .obj c ds | _ => .cell l) = (match h[l]? with | some (.lst ds) => D.lst ds | some (.dic ks vs) => .dic ks vs | some (.obj c ds) => .obj c ds | _ => .cell l)
    rw [List.getElem?_append_left hl]
  | _ => rfl
def isLst : D → Bool
  | .lst _ => true
  | .tup _ => true
  | _ => false
/-- the different digits, in order -/
def ordI (ns : List Int) : List Int := sortI (onceL ns)
def ordP (ps : List (Int × Int)) : List (Int × Int) := sortP (onceL ps)
def digList (v : D) (gs : List Int) (least : Int) : Bool := match v with
  | .lst es => es.all isDig && (decide (least ≤ (ordI (es.map intD ++ gs)).length) && decide ((ordI (es.map intD ++ gs)).length ≤ 6))
  | .tup es => es.all isDig && (decide (least ≤ (ordI (es.map intD ++ gs)).length) && decide ((ordI (es.map intD ++ gs)).length ≤ 6))
  | _ => false
def isPr (v : D) (gs : List Int) : Bool := match v with
  | .tup [a, b] => (isDig a && gs.contains (intD a)) && (isDig b && gs.contains (intD b))
  | _ => false
def pairD : D → Int × Int
  | .tup [a, b] => (intD a, intD b)
  | _ => (0, 0)
theorem dig_int {d : D} (h : isDig d = true) : d = .int (intD d) := by
  cases d <;> first | rfl | cases h
theorem digs_int : ∀ {es : List D}, es.all isDig = true → es = (es.map intD).map D.int
  | [], _ => rfl
  | d :: es, h => by
    simp only [List.all_cons, Bool.and_eq_true] at h
    rw [List.map_cons, List.map_cons, ← dig_int h.1, ← digs_int h.2]
theorem prsD_map (ps : List (Int × Int)) : prsD (ps.map prD) = some ps := by
  induction ps with
  | nil => rfl
  | cons p ps ih => simp [prsD, prD] at ih ⊢; rw [ih]
theorem diffD_ints (ns : List Int) : diffD (ns.map D.int) = some ((ordI ns).map D.int) := by
  unfold diffD
  rw [intsD_map]
  rfl
theorem diffD_prs (ps : List (Int × Int)) : diffD (ps.map prD) = some ((ordP ps).map prD) := by
  cases ps with
  | nil => rfl
  | cons p ps =>
    unfold diffD
    have e : intsD ((p :: ps).map prD) = none := rfl
    rw [e, prsD_map]
    rfl
theorem lcLoop_pureC {chk : Stt → Prop} {turn : D → Stt → (List D → Stt → Prop) → Prop} {g : D → List D} {st : Stt} (hc : chk st) : ∀ {items acc : List D} {Q : List D → Stt → Prop}, (∀ x ∈ items, ∀ R, turn x st R = R (g x) st) → lcLoop chk turn items acc st Q = Q (acc ++ items.flatMap g) st
  | [], acc, Q, _ => by simp [lcLoop, hc]
  | x :: xs, acc, Q, h => by
    show (chk st ∧ turn x st (fun r st1 => lcLoop chk turn xs (acc ++ r) st1 Q)) = _
    rw [h x (by simp)]
    show (chk st ∧ lcLoop chk turn xs (acc ++ g x) st Q) = _
    rw [lcLoop_pureC hc fun y hy => h y (by simp [hy])]
    simp [hc]
theorem lcB_pureC {chk : Stt → Prop} {turn : D → Stt → (List D → Stt → Prop) → Prop} {st : Stt} {items : List D} {Q : List D → Stt → Prop} {u : Hd turn} {v : Hd Q} (hc : chk st) (g : D → List D) (h : ∀ x ∈ items, ∀ R, turn x st R = R (g x) st) : lcB chk turn items st Q u v = Q (items.flatMap g) st := by
  show lcLoop chk turn items [] st Q = _
  rw [lcLoop_pureC hc h]
  rfl
theorem lcB_mapC {chk : Stt → Prop} {turn : D → Stt → (List D → Stt → Prop) → Prop} {st : Stt} {items : List D} {Q : List D → Stt → Prop} {u : Hd turn} {v : Hd Q} (hc : chk st) (f : D → D) (h : ∀ x ∈ items, ∀ R, turn x st R = R [f x] st) : lcB chk turn items st Q u v = Q (items.map f) st := by
  rw [lcB_pureC hc (fun x => [f x]) h, flatMap_one]
theorem isLst_inv {d : D} (h : isLst d = true) : ∃ es, seqD d = some es ∧ itD .seq [d] = some es ∧ ((d = .lst es) ∨ d = .tup es) := by
  cases d with
  | lst es => exact ⟨es, rfl, rfl, .inl rfl⟩
  | tup es => exact ⟨es, rfl, rfl, .inr rfl⟩
  | _ => cases h
section
variable {P : Nat → Option Fn} (hP : HL P) {n : Nat} {h : List CO} {Q : D → List CO → Prop} {X : Nat → List D → List CO → Prop}
include hP
theorem is_list_eq {d : D} (hn : 1 ≤ n) (hv : tyOk (view h d) = true) : CC P n 9 [d] h Q X = Q (.bl (isLst (view h d))) h := by
  rw [CC_eq (fn := fn_is_list) (hP.l 9 (by decide)) hn rfl]
  simp [fn_is_list, startE, hv]
  refine Q_iff ?_
  cases hw : view h d <;> rw [hw] at hv <;> simp [tyD, isLst]
theorem different_eq {d : D} {es out : List D} (hn : 1 ≤ n) (e : seqD (view h d) = some es) (hl : es.length < 64) (ho : diffD es = some out) : CC P n 10 [d] h Q X = Q (.tup out) h := by
  rw [CC_eq (fn := fn_different) (hP.l 10 (by decide)) hn rfl]
  simp [fn_different, startE, e, hl, ho]
theorem is_digit_list_eq {d : D} {gs : List Int} {least : Int} (hn : 3 ≤ n) (hv : tyOk (view h d) = true) (hs : ∀ es, seqD (view h d) = some es → (∀ x ∈ es, tyOk x = true) ∧ es.length + gs.length < 64) :
    CC P n 11 [d, .tup (gs.map D.int), .int least] h Q X = Q (.bl (digList (view h d) gs least)) h := by
  have sz : sizeLine = 16777216 := sizeLine_eq
  rw [CC_eq (fn := fn_is_digit_list) (hP.l 11 (by decide)) (by omega) rfl]
  simp [fn_is_digit_list, startE, callB]
  rw [is_list_eq hP (by omega) hv]
  cases hw : isLst (view h d) with
  | false =>
    have e : digList (view h d) gs least = false := by cases hd : view h d <;> rw [hd] at hw <;> first | rfl | cases hw
    simp [e]
  | true =>
    obtain ⟨es, e1, e2, e3⟩ := isLst_inv hw
    obtain ⟨h1, h2⟩ := hs es e1
    have ed : digList (view h d) gs least = (es.all isDig && (decide (least ≤ (ordI (es.map intD ++ gs)).length) && decide ((ordI (es.map intD ++ gs)).length ≤ 6))) := by rcases e3 with e | e <;> rw [e] <;> rfl
    simp [e2, show es.length ≤ sizeLine by omega]
    rw [lcB_mapC ?hc (fun x => .bl (isDig x)) ?hx]
    case hc => exact rfl
    case hx =>
      intro x hx R
      simp [callB]
      rw [is_digit_eq hP (by omega) (h1 x hx)]
    simp only [z_Anil]
    simp [blsD_mapF]
    rw [ed]
    by_cases ha : es.all isDig = true
    · simp only [ha, Bool.not_true, Bool.false_eq_true, if_false]
      have hi := digs_int ha
      simp [callB, e1]
      rw [different_eq hP (es := es ++ gs.map D.int) (by omega) rfl (by simp; omega) (by rw [hi, ← List.map_append]; exact diffD_ints _)]
      simp
      rw [if_neg (by
        rintro ⟨x, hx, e⟩
        rw [List.all_eq_true.mp ha x hx] at e
        cases e)]
      have e6 : decide (((ordI (es.map intD ++ gs)).length : Int) ≤ 6) = decide ((ordI (es.map intD ++ gs)).length ≤ 6) := by
        apply Bool.eq_iff_iff.mpr
        simp
        omega
      rw [e6]
      by_cases hl : least ≤ ((ordI (es.map intD ++ gs)).length : Int)
      · simp [hl, show es.length + gs.length ≤ sizeLine by omega]
      · simp [hl, show es.length + gs.length ≤ sizeLine by omega]
    · simp [ha]
      exact fun hh => absurd (List.all_eq_true.mpr hh) ha
/-- digits as a list or a tuple -/
theorem in_ints {gs : List Int} {d : D} (hd : isDig d = true) : ((gs.map D.int).any fun z => eqD z d) = gs.contains (intD d) := by
  obtain ⟨i, rfl⟩ : ∃ i, d = .int i := ⟨_, dig_int hd⟩
  show _ = gs.contains i
  induction gs with
  | nil => rfl
  | cons g gs ih =>
    simp only [List.map_cons, List.any_cons, List.contains_cons, ih, eqD_int]
    congr 1
    apply Bool.eq_iff_iff.mpr
    simp
    exact eq_comm
theorem in_ints2 {gs : List Int} {d : D} (hd : isDig d = true) : gs.any ((fun z => eqD z d) ∘ D.int) = decide (intD d ∈ gs) := by
  have z := in_ints hP (gs := gs) hd
  rw [List.any_map] at z
  rw [z]
  apply Bool.eq_iff_iff.mpr
  simp
theorem is_pair_eq {d e : D} {gs : List Int} (hn : 3 ≤ n) (hv : tyOk (view h d) = true) (hs : ∀ es, view h d = .tup es → (∀ x ∈ es, tyOk x = true) ∧ es.length ≤ 1000) (he : view h e = .lst (gs.map D.int) ∨ view h e = .tup (gs.map D.int)) :
    CC P n 12 [d, e] h Q X = Q (.bl (isPr (view h d) gs)) h := by
  have sz : sizeLine = 16777216 := sizeLine_eq
  rw [CC_eq (fn := fn_is_pair) (hP.l 12 (by decide)) (by omega) rfl]
  simp [fn_is_pair, startE, hv]
  by_cases ht : ∃ es, view h d = .tup es
  · obtain ⟨es, et⟩ := ht
    obtain ⟨h1, h2⟩ := hs es et
    have et2 : tyD (view h d) .tuple = true := by rw [et]; rfl
    simp [et2, et]
    by_cases hl : es.length = 2
    · match es, hl, h1, h2, et with
      | [a, b], _, h1, h2, et =>
        have ei : itD .seq [view h d] = some [a, b] := by rw [et]; rfl
        simp [ei, show 2 ≤ sizeLine by omega]
        rw [lcB_mapC ?hc (fun x => .bl (isDig x && gs.contains (intD x))) ?hx]
        case hc => exact rfl
        case hx =>
          intro x hx R
          simp [callB]
          rw [is_digit_eq hP (by omega) (h1 x hx)]
          cases hd : isDig x with
          | false => simp
          | true =>
            have hf : flatD 50 x = true := by rw [dig_int hd]; rfl
            have hvx : view h x = x := view_ok (h1 x hx)
            rcases he with he | he <;> simp [he, hvx, hf, flat_ints, in_ints2 hP hd]
        simp only [z_Anil]
        simp [blsD_mapF, isPr]
    · simp [show ¬ ((es.length : Int) = 2) by omega]
      have e0 : isPr (.tup es) gs = false := by
        match es, hl with
        | [], _ => rfl
        | [_], _ => rfl
        | [_, _], hl => exact absurd rfl hl
        | _ :: _ :: _ :: _, _ => rfl
      rw [e0]
  · have e0 : isPr (view h d) gs = false := by
      cases hd : view h d with
      | tup es => exact absurd ⟨es, hd⟩ ht
      | _ => rfl
    have e1 : tyD (view h d) .tuple = false := by
      cases hd : view h d with
      | tup es => exact absurd ⟨es, hd⟩ ht
      | _ => rfl
    simp [e0, e1]
end
/-- what Scheme(b, d, bars=r) gives; dv, rv: what d, r show -/
def schemeOf (b d r dv rv : D) : Except (Nat × D) (List D) :=
  if isBase b = false then .error (101, b)
  else if digList dv [] 1 = false then .error (102, d)
  else if isLst rv = false then .error (103, r)
  else match ((seqD rv).getD []).find? (fun x => !isPr x (((seqD dv).getD []).map intD)) with
    | some x => .error (103, x)
    | none => .ok [b, .tup ((ordI (((seqD dv).getD []).map intD)).map D.int), .tup ((ordP (((seqD rv).getD []).map pairD)).map prD), .tup [b, .tup ((ordI (((seqD dv).getD []).map intD)).map D.int), .tup ((ordP (((seqD rv).getD []).map pairD)).map prD)]]
/-- digits that may be handed in -/
structure DigOk (h : List CO) (d : D) : Prop where
  c : cellsLt h.length d = true
  ty : tyOk (view h d) = true
  it : ∀ es, seqD (view h d) = some es → (∀ x ∈ es, tyOk x = true) ∧ es.length < 64
/-- bars that may be handed in -/
structure BarOk (h : List CO) (d : D) : Prop where
  c : cellsLt h.length d = true
  ty : tyOk (view h d) = true
  it : ∀ es, seqD (view h d) = some es → es.length < 64 ∧ ∀ x ∈ es, cellsLt h.length x = true ∧ tyOk (view h x) = true ∧ ∀ fs, view h x = .tup fs → (∀ y ∈ fs, tyOk y = true) ∧ fs.length ≤ 1000
theorem digList_inv {v : D} {least : Int} (h : digList v [] least = true) : ∃ gs : List Int, seqD v = some (gs.map D.int) ∧ isLst v = true ∧ ((seqD v).getD []).map intD = gs ∧ (v = .lst (gs.map D.int) ∨ v = .tup (gs.map D.int)) ∧ ∀ g ∈ gs, -9 ≤ g ∧ g ≤ 9 := by
  have key : ∀ es : List D, es.all isDig = true → ∀ g ∈ es.map intD, -9 ≤ g ∧ g ≤ 9 := fun es ha g hg => by
    obtain ⟨x, hx, rfl⟩ := List.mem_map.mp hg
    have z := List.all_eq_true.mp ha x hx
    rw [dig_int z] at z
    simpa [isInD] using z
  cases v with
  | lst es =>
    have ha : es.all isDig = true := by
      unfold digList at h
      rw [Bool.and_eq_true] at h
      exact h.1
    exact ⟨es.map intD, by rw [← digs_int ha]; rfl, rfl, rfl, .inl (by rw [← digs_int ha]), key es ha⟩
  | tup es =>
    have ha : es.all isDig = true := by
      unfold digList at h
      rw [Bool.and_eq_true] at h
      exact h.1
    exact ⟨es.map intD, by rw [← digs_int ha]; rfl, rfl, rfl, .inr (by rw [← digs_int ha]), key es ha⟩
  | _ => cases h
theorem isPr_inv {v : D} {gs : List Int} (h : isPr v gs = true) : v = prD (pairD v) := by
  unfold isPr at h
  split at h
  · rename_i a b
    simp only [Bool.and_eq_true] at h
    unfold pairD prD
    dsimp only
    rw [← dig_int h.1.1, ← dig_int h.2.1]
  · cases h
theorem view_pair {h : List CO} {x : D} {gs : List Int} (e : isPr (view h x) gs = true) : view h x = x ∨ ∃ l, x = .cell l := by
  cases x with
  | cell l => exact .inr ⟨l, rfl⟩
  | _ => exact .inl rfl
/-- a cell shows no tuple -/
theorem pair_plain {h : List CO} {x : D} {gs : List Int} : isPr (view h x) gs = isPr x gs := by
  cases x with
  | cell l =>
    show isPr (match h[l]? with | some (.lst ds) => D.lst ds | some (.dic ks vs) => .dic ks vs | some (.obj c ds) => .obj c ds | _ => .cell l) gs = _
    cases h[l]? with
    | none => rfl
    | some o => cases o <;> rfl
  | _ => rfl
theorem objAt_last {g : List CO} {e : List Sl} {c : Nat} {fs : List D} : objAt ⟨.shr (.cell g.length) :: e, g ++ [.obj c fs]⟩ 0 = some (g.length, c, fs) := by
  show (match (g ++ [.obj c fs])[g.length]? with | some (.obj c fs) => some (g.length, c, fs) | _ => none) = _
  simp
theorem set_last {g : List CO} {a b : CO} : (g ++ [a]).set g.length b = g ++ [b] := by simp
theorem view_last {g : List CO} {c : Nat} {fs : List D} : view (g ++ [.obj c fs]) (.cell g.length) = .obj c fs := by
  show (match (g ++ [.obj c fs])[g.length]? with | some (.lst ds) => D.lst ds | some (.dic ks vs) => .dic ks vs | some (.obj c ds) => .obj c ds | _ => .cell g.length) = _
  simp
section
variable {P : Nat → Option Fn} (hP : HL P) {n : Nat} {g : List CO} {Q : D → List CO → Prop} {X : Nat → List D → List CO → Prop}
include hP
theorem init_ok {b d r : D} (hn : 5 ≤ n) (hb : tyOk b = true) (hd : DigOk g d) (hr : BarOk g r)
    (q : match schemeOf b d r (view g d) (view g r) with | .error (c, v) => X c [v] (g ++ [.obj 0 []]) | .ok fs => Q .non (g ++ [.obj 0 fs])) :
    CC P n 500 [.cell g.length, b, d, r] (g ++ [.obj 0 []]) Q X := by
  have sz : sizeLine = 16777216 := sizeLine_eq
  have vd : ∀ fs, view (g ++ [.obj 0 fs]) d = view g d := fun fs => view_app hd.c
  have vr : ∀ fs, view (g ++ [.obj 0 fs]) r = view g r := fun fs => view_app hr.c
  refine CC_of (fn := fn_Scheme___init__) (hP.l 500 (by decide)) (by omega) rfl ?_
  unfold schemeOf at q
  simp [fn_Scheme___init__, startE]
  refine callB_of ?_
  rw [is_base_eq hP (by omega) hb]
  cases h1 : isBase b with
  | false => simpa [h1] using q
  | true =>
    simp [h1] at q ⊢
    refine callB_of ?_
    have z : ∀ (Q : D → List CO → Prop) (X : Nat → List D → List CO → Prop), CC P (n - 1) 11 [d, .tup [], .int 1] (g ++ [.obj 0 []]) Q X = Q (.bl (digList (view g d) [] 1)) (g ++ [.obj 0 []]) := fun Q X => by
      have z := is_digit_list_eq hP (n := n - 1) (h := g ++ [.obj 0 []]) (Q := Q) (X := X) (d := d) (gs := []) (least := 1) (by omega) (by rw [vd]; exact hd.ty) (by rw [vd]; simpa using hd.it)
      rw [List.map_nil, vd] at z
      exact z
    rw [z]
    cases h2 : digList (view g d) [] 1 with
    | false => simpa [h2] using q
    | true =>
      obtain ⟨gs, e1, e2, e3, e4, e5⟩ := digList_inv h2
      rw [e3] at q
      simp [h2] at q ⊢
      refine callB_of ?_
      rw [is_list_eq hP (by omega) (by rw [vr]; exact hr.ty), vr]
      cases h3 : isLst (view g r) with
      | false => simpa [h3] using q
      | true =>
        obtain ⟨es, r1, r2, r3⟩ := isLst_inv h3
        obtain ⟨l1, l2⟩ := hr.it es r1
        have gl : gs.length < 64 := by have z := (hd.it _ e1).2; simpa using z
        simp [h3, r1, vr, r2, show es.length ≤ sizeLine by omega] at q ⊢
        refine forB_list (CC_mono _) (fun xs st => ∃ (a : List D) (v : Sl), es = a ++ xs ∧ (∀ x ∈ a, isPr x gs = true) ∧ st = ⟨[.shr (.cell g.length), .shr b, .shr d, .shr r, v], g ++ [.obj 0 []]⟩) ⟨[], _, rfl, (fun x hx => by cases hx), rfl⟩ ?_ ?_ ?_
        · rintro x xs _ ⟨a, v, ea, ha, rfl⟩
          obtain ⟨x1, x2, x3⟩ := l2 x (by rw [ea]; simp)
          have vx : view (g ++ [.obj 0 []]) x = view g x := view_app x1
          simp
          refine callB_of ?_
          rw [is_pair_eq hP (gs := gs) (by omega) (by rw [vx]; exact x2) (by rw [vx]; exact x3) (by rw [vd]; exact e4), vx, pair_plain]
          cases hp : isPr x gs with
          | true =>
            simp
            exact Rch_of ⟨a ++ [x], .shr x, by simp [ea], by
              intro y hy
              rcases List.mem_append.mp hy with z | z
              · exact ha y z
              · simp at z; rw [z]; exact hp, rfl⟩
          | false =>
            simp
            have e : es.find? (fun x => !isPr x gs) = some x := by
              rw [ea, List.find?_append]
              have e0 : a.find? (fun x => !isPr x gs) = none := by
                rw [List.find?_eq_none]
                intro y hy
                simp [ha y hy]
              rw [e0]
              simp [hp]
            rw [e] at q
            exact q
        · rintro _ ⟨a, v, ea, ha, rfl⟩
          rw [List.append_nil] at ea
          subst ea
          have e : es.find? (fun x => !isPr x gs) = none := by
            rw [List.find?_eq_none]
            intro y hy
            simp [ha y hy]
          rw [e] at q
          have ep : es = (es.map pairD).map prD := by
            rw [List.map_map]
            conv => lhs; rw [← List.map_id es]
            exact List.map_congr_left fun x hx => isPr_inv (ha x hx)
          simp [objAt_last, putFl, set_last]
          refine callB_of ?_
          rw [different_eq hP (es := gs.map D.int) (by omega) (by rw [vd]; exact e1) (by simpa using gl) (diffD_ints gs)]
          simp [objAt_last, putFl, set_last]
          refine callB_of ?_
          have ed : diffD es = some ((ordP (es.map pairD)).map prD) := (congrArg diffD ep).trans (diffD_prs _)
          rw [different_eq hP (es := es) (out := (ordP (es.map pairD)).map prD) (by omega) (by rw [vr]; exact r1) l1 ed]
          simp [objAt_last, putFl, set_last, view_last]
          simpa using q
        · rintro _ _ ⟨a, v, ea, ha, rfl⟩
          rfl
theorem make_scheme {e : List Sl} {Q : PD} {X : PX} {b d r : D} {u : Hd (CC P n)} {v : Hd Q} {w : Hd X} (hn : 5 ≤ n) (hb : tyOk b = true) (hbc : cellsLt g.length b = true) (hd : DigOk g d) (hr : BarOk g r)
    (q : match schemeOf b d r (view g d) (view g r) with | .error (c, v) => X c [v] ⟨e, g⟩ | .ok fs => Q (.obj 0 fs) ⟨e, g⟩) : makeB (CC P n) 0 true 500 [.cell g.length, b, d, r] ⟨e, g⟩ Q X u v w := by
  unfold makeB
  refine init_ok hP hn hb hd hr ?_
  have cint : ∀ l : List Int, cellsLts g.length (l.map D.int) = true := fun l => by
    induction l with
    | nil => rfl
    | cons x l ih => simp only [List.map_cons, cellsLts, cellsLt, ih, Bool.and_self]
  have cprs : ∀ l : List (Int × Int), cellsLts g.length (l.map prD) = true := fun l => by
    induction l with
    | nil => rfl
    | cons x l ih => simp only [List.map_cons, prD, cellsLts, cellsLt, ih, Bool.and_self]
  have ce : ∀ c x, schemeOf b d r (view g d) (view g r) = .error (c, x) → cellsLt g.length x = true := fun c x e => by
    unfold schemeOf at e
    split at e
    · cases e; exact hbc
    · split at e
      · cases e; exact hd.c
      · split at e
        · cases e; exact hr.c
        · rename_i h3
          split at e
          · rename_i y hy
            cases e
            have hm := List.mem_of_find?_eq_some hy
            cases hs : seqD (view g r) with
            | none => rw [hs] at hm; cases hm
            | some es => rw [hs] at hm; exact ((hr.it es hs).2 _ hm).1
          · cases e
  have co : ∀ fs, schemeOf b d r (view g d) (view g r) = .ok fs → cellsLts g.length fs = true := fun fs e => by
    unfold schemeOf at e
    split at e
    · cases e
    · split at e
      · cases e
      · split at e
        · cases e
        · split at e
          · cases e
          · cases e
            simp only [cellsLts, cellsLt, hbc, cint, cprs, Bool.and_self]
  cases hs : schemeOf b d r (view g d) (view g r) with
  | error p =>
    obtain ⟨c, x⟩ := p
    rw [hs] at q
    simp only [if_true]
    exact ⟨⟨_, rfl⟩, by simp only [cellsLts, ce c x hs, Bool.and_self], q⟩
  | ok fs =>
    rw [hs] at q
    simp only [if_true]
    exact ⟨trivial, fs, rfl, co fs hs, q⟩
end
end Mp
namespace Mp
open PySem PySem.Spec L2
/-! more helpers that the laws share: draws, digits, pairs, schemes -/
theorem TakeP.use {P : Nat → Option Fn} {t n : Nat} {h : List CO} {Q : D → List CO → Prop} {X : Nat → List D → List CO → Prop} {u : Hd (CC P n)} {v : Hd Q} {w : Hd X} {m : Int} {l K : Nat} (tk : TakeP P t 1) (hx : Bx K h l) (hn : 1 ≤ n) (hm : 0 < m) (hm2 : m < 2 ^ 60) (hK : 1 ≤ K)
    (q : ∀ i h', 0 ≤ i → i < m → Bx (K - 1) h' l → Ot l h h' → Q (.int i) h') : callB (CC P n) t [.cell l, .int m] h Q X u v w := by
  refine callB_of (tk n h Q X m l (K - 1) hn hm (log2_lt (k := 60) (by omega) (by decide)) (by rw [Nat.sub_add_cancel hK]; exact hx) q)
@[simp] theorem itEqs_nilR {ds : List D} : itEqs ds [] = some ds.isEmpty := by cases ds <;> rfl
/-- digits as the laws draw them -/
structure DigsOk (ds : List Int) : Prop where
  l1 : 1 ≤ ds.length
  l6 : ds.length ≤ 6
  nd : ds.Nodup
  b : ∀ d ∈ ds, -9 ≤ d ∧ d ≤ 9
def fnDigits (t : Nat) : Fn := ⟨2, 9, [.par [4, 5] [.call t [.var 0, .con (.int 4)] [.inl 0, .inl 1], .op .add [.con (.int 1), .call t [.var 0, .con (.int 6)] [.inl 0, .inl 1]]],
    .ite (.tb (.op .eq [.brw 4, .con (.int 0)])) [.asg (.nm 6) (.op .sub [.call t [.var 0, .con (.int 4)] [.inl 0, .inl 1], .con (.int 3)]),
    .ret (.op .rng2 [.brw 6, .op .add [.brw 6, .brw 5]])] [],
    .ite (.tb (.op .eq [.brw 4, .con (.int 1)])) [.asg (.nm 7) (.lc .range1 [.op .abs [.brw 1]] (.nm 2) [] (.op .add [.brw 2, .op .mul [.op .abs [.brw 1], .op .sub [.call t [.var 0, .con (.int 3)] [.inl 0, .inl 1], .con (.int 1)]]]) [2]),
    .ret (.lc .seq [.var 7] (.nm 3) [] (.op .sub [.brw 3, .op .mul [.op .abs [.brw 1], .op .toInt [.op .gt [.brw 3, .con (.int 9)]]]]) [3])] [],
    .asgO 8 (.op .rng2 [.op .neg [.con (.int 9)], .con (.int 10)]),
    .ret (.lc .range1 [.var 5] (.nm 2) [] (.pop 8 (.call t [.var 0, .op .len [.brw 8]] [.inl 0, .inl 1])) [2])], false⟩
def fnPairs : Fn := ⟨1, 4, [.asg (.nm 2) (.lst []),
    .for_ .seq [.var 0] (.nm 3) [.asg (.nm 2) (.op .add [.brw 2, .lc .seq [.var 0] (.nm 1) [] (.tup [.var 3, .var 1]) [1]])],
    .ret (.var 2)], false⟩
def fnScheme (t d p : Nat) : Fn := ⟨1, 6, [.asg (.nm 2) (.op .item [.lst [.con (.int 2), .op .neg [.con (.int 2)], .con (.int 3), .op .neg [.con (.int 3)], .con (.int 2), .op .neg [.con (.int 4)], .con (.int 4), .con (.int 5), .op .neg [.con (.int 5)], .con (.int 6), .op .neg [.con (.int 6)]], .call t [.var 0, .con (.int 11)] [.inl 0, .inl 1]]),
    .par [3, 4] [.op .sorted [.call d [.var 0, .var 2] [.inl 0, .inl 1]], .call t [.var 0, .con (.int 4)] [.inl 0, .inl 1]],
    .asg (.nm 5) (.call p [.var 3] [.inl 0]),
    .ite (.tb (.op .eq [.brw 4, .con (.int 0)])) [.ret (.lst [.var 2, .var 3, .lst []])] [],
    .ite (.tb (.op .eq [.brw 4, .con (.int 1)])) [.ret (.lst [.var 2, .var 3, .lc .seq [.var 5] (.nm 1) [.tAnd (.tb (.op .ne [.op .item [.brw 1, .con (.int 0)], .con (.int 0)])) (.tb (.op .ne [.op .item [.brw 1, .con (.int 1)], .con (.int 0)]))] (.var 1) [1]])] [],
    .ite (.tb (.op .eq [.brw 4, .con (.int 2)])) [.ret (.lst [.var 2, .var 3, .lc .seq [.var 5] (.nm 1) [.tb (.op .eq [.op .item [.brw 1, .con (.int 0)], .op .item [.brw 1, .con (.int 1)]])] (.var 1) [1]])] [],
    .ret (.lst [.var 2, .var 3, .lc .seq [.var 5] (.nm 1) [.tb (.op .eq [.call t [.var 0, .con (.int 4)] [.inl 0, .inl 1], .con (.int 0)])] (.var 1) [1]])], false⟩
/-- numbers with different rests are different -/
theorem nodup_mod {m : Int} {l : List Int} (h : (l.map (· % m)).Nodup) : l.Nodup := List.Pairwise.imp (fun h e => h (by rw [e])) (List.pairwise_map.mp h)
theorem rngL_eq (a b : Int) : rngL a b = ((List.range (b - a).toNat).map fun (k : Nat) => a + (k : Int)).map D.int := by
  unfold rngL
  rw [List.map_map]
  rfl
theorem nodup_rng (a : Int) (n : Nat) : ((List.range n).map fun (k : Nat) => a + (k : Int)).Nodup := by
  refine List.pairwise_map.mpr (List.Pairwise.imp (fun {x y} h => ?_) (List.nodup_range (n := n)))
  omega
theorem map_eraseIdx' {α β : Type} (f : α → β) : ∀ (l : List α) (i : Nat), (l.map f).eraseIdx i = (l.eraseIdx i).map f
  | [], _ => rfl
  | _ :: _, 0 => rfl
  | a :: l, i + 1 => by simp [map_eraseIdx' f l i]
theorem popAt_ints {ds : List Int} {i : Int} (h0 : 0 ≤ i) (h1 : i < ds.length) : ∃ j, ∃ hj : j < ds.length, popAt (ds.map D.int) i = some (.int ds[j], (ds.eraseIdx j).map D.int) := by
  obtain ⟨j, hj, e⟩ := popAt_of (ds := ds.map D.int) h0 (by simpa using h1)
  refine ⟨j, by simpa using hj, ?_⟩
  rw [e]
  simp [map_eraseIdx']
section
variable {P : Nat → Option Fn} {n f : Nat} {h : List CO} {Q : D → List CO → Prop} {X : Nat → List D → List CO → Prop}
theorem digits_ok {t l K : Nat} {r : Int} (hf : P f = some (fnDigits t)) (tk : TakeP P t 1) (hn : 2 ≤ n) (hr : isBase (.int r) = true) (hx : Bx K h l) (hK : 8 ≤ K) (q : ∀ ds h', DigsOk ds → Bx (K - 8) h' l → Ot l h h' → Q (.lst (ds.map D.int)) h') : CC P n f [.cell l, .int r] h Q X := by
  refine CC_of hf (by omega) rfl ?_
  have sz : sizeLine = 16777216 := sizeLine_eq
  have mC : MonC (CC P (n - 1)) := CC_mono _
  have hr' : -6 ≤ r ∧ r ≤ 6 ∧ (1 < r ∨ r < -1) := by simpa [isBase, and_assoc] using hr
  obtain ⟨A, hA, A2, A6⟩ : ∃ A : Nat, (if r < 0 then -r else r) = (A : Int) ∧ 2 ≤ A ∧ A ≤ 6 := ⟨(if r < 0 then -r else r).toNat, by split <;> omega, by split <;> omega, by split <;> omega⟩
  simp [fnDigits, startE]
  refine TakeP.use (by assumption) (by assumption) (by omega) (by first | decide | omega) (by first | decide | omega) (by omega) fun w g1 w0 w1 bx1 ot1 => ?_
  simp
  refine TakeP.use (by assumption) (by assumption) (by omega) (by first | decide | omega) (by first | decide | omega) (by omega) fun m g2 m0 m1 bx2 ot2 => ?_
  simp
  by_cases hw : w = 0
  · simp [hw]
    refine TakeP.use (by assumption) (by assumption) (by omega) (by first | decide | omega) (by first | decide | omega) (by omega) fun a g3 a0 a1 bx3 ot3 => ?_
    simp
    refine ⟨⟨by omega, by omega, by omega, by omega⟩, ?_⟩
    rw [rngL_eq]
    refine q _ _ ⟨by simp; omega, by simp; omega, nodup_rng _ _, fun d hd => ?_⟩ (bx3.mono (by omega)) ((ot1.trans ot2).trans ot3)
    simp at hd
    omega
  · simp [hw]
    by_cases hw1 : w = 1
    · simp [hw1, hA, itD_range1 (n := (A : Int)) (by omega) (by omega)]
      refine ⟨by omega, ?_⟩
      refine lcB_list mC (fun xs acc st => ∃ (ds : List Int) (g : List CO), st = ⟨[.shr (.cell l), .shr (.int r), .un, .un, .shr (.int w), .shr (.int (1 + m)), .un, .un, .un], g⟩ ∧ acc = ds.map D.int ∧ ds.length + xs.length = A ∧ xs = (List.range' ds.length xs.length).map (fun (k : Nat) => D.int k) ∧ (∀ i (hi : i < ds.length), ∃ c : Int, -1 ≤ c ∧ c ≤ 1 ∧ ds[i] = i + A * c) ∧ Bx (K - 2 - ds.length) g l ∧ Ot l h g) ⟨[], g2, by rw [hw1], rfl, by simp, by simp [List.range_eq_range'], by simp, bx2.mono (by omega), ot1.trans ot2⟩ ?_ ?_
      · rintro x xs _ _ ⟨ds, g, rfl, rfl, hl, hxs, hv, bx, ot⟩
        simp [List.range'_succ] at hxs hl
        obtain ⟨rfl, hxs⟩ := hxs
        simp
        refine TakeP.use (by assumption) (by assumption) (by omega) (by first | decide | omega) (by first | decide | omega) (by omega) fun c g3 c0 c1 bx3 ot3 => ?_
        simp [hA]
        refine ⟨?_, Rcl_of ⟨ds ++ [(ds.length : Int) + A * (c - 1)], g3, rfl, by simp, by simp; omega, ?_, ?_, bx3.mono (by simp; omega), ot.trans ot3⟩⟩
        · first | exact .inl ⟨by omega, by omega⟩ | omega
        · simpa using hxs
        · intro i hi
          simp at hi
          by_cases hi2 : i < ds.length
          · obtain ⟨c', h1, h2, h3⟩ := hv i hi2
            exact ⟨c', h1, h2, by simp [List.getElem_append_left hi2, h3]⟩
          · have : i = ds.length := by omega
            subst this
            exact ⟨c - 1, by omega, by omega, by simp⟩
      · rintro _ _ ⟨ds, g, rfl, rfl, hl, -, hv, bx, ot⟩
        simp at hl
        simp [itD]
        refine ⟨by omega, ?_⟩
        have hv' : ∀ d ∈ ds, -6 ≤ d ∧ d ≤ 11 ∧ (A = 6 ∨ d ≤ 9) := fun d hd => by
          obtain ⟨i, hi, rfl⟩ := List.getElem_of_mem hd
          obtain ⟨c, c1, c2, e⟩ := hv i hi
          rw [e]
          have : c = -1 ∨ c = 0 ∨ c = 1 := by omega
          rcases this with rfl | rfl | rfl <;> omega
        rw [lcB_map (fun x => .int (intD x - (A : Int) * (if 9 < intD x then 1 else 0))) ?lm]
        case lm =>
          intro x hx R
          obtain ⟨d, hd, rfl⟩ := List.mem_map.mp hx
          have := hv' d hd
          have cm : ∀ j, CMul (A : Int) j := fun j => .inl ⟨by omega, by omega⟩
          by_cases h9 : 9 < d <;> simp [hA, intD, cm, h9]
        · have em : (ds.map D.int).map (fun x => D.int (intD x - (A : Int) * (if 9 < intD x then 1 else 0))) = (ds.map fun (d : Int) => d - (A : Int) * (if 9 < d then 1 else 0)).map D.int := by rw [List.map_map, List.map_map]; rfl
          rw [em]
          refine q _ _ ⟨by simp; omega, by simp; omega, ?_, fun d hd => ?_⟩ (bx.mono (by omega)) ot
          · refine nodup_mod (m := A) ?_
            have e2 : (ds.map fun (d : Int) => d - (A : Int) * (if 9 < d then 1 else 0)).map (· % (A : Int)) = (List.range A).map fun (k : Nat) => (k : Int) := by
              apply List.ext_getElem
              · simp; omega
              · intro i h1 h2
                simp at h1
                obtain ⟨c, c1, c2, e⟩ := hv i h1
                simp [e]
                exact Int.emod_eq_of_lt (by omega) (by omega)
            rw [e2]
            exact List.pairwise_map.mpr (List.Pairwise.imp (fun {x y} h => by omega) (List.nodup_range (n := A)))
          · simp at hd
            obtain ⟨d, hd, rfl⟩ := hd
            have := hv' d hd
            split <;> omega
    · simp [hw1, rngL_eq, itD_range1 (n := 1 + m) (by omega) (by omega)]
      refine ⟨by omega, ?_⟩
      refine lcB_list mC (fun xs acc st => ∃ (ds pool : List Int) (g : List CO), st = ⟨[.shr (.cell l), .shr (.int r), .un, .un, .shr (.int w), .shr (.int (1 + m)), .un, .un, .own (.lst (pool.map D.int))], g⟩ ∧ acc = ds.map D.int ∧ ds.length + xs.length = (1 + m).toNat ∧ (ds ++ pool).Perm ((List.range 19).map fun (k : Nat) => -9 + (k : Int)) ∧ Bx (K - 2 - ds.length) g l ∧ Ot l h g) ⟨[], (List.range 19).map fun (k : Nat) => -9 + (k : Int), g2, by simp, rfl, by simp, by simp, bx2.mono (by omega), ot1.trans ot2⟩ ?_ ?_
      · rintro x xs _ _ ⟨ds, pool, g, rfl, rfl, hl, pm, bx, ot⟩
        have ll := pm.length_eq
        simp at hl ll
        simp
        refine TakeP.use (by assumption) (by assumption) (by omega) (by first | decide | omega) (by first | decide | omega) (by omega) fun c g3 c0 c1 bx3 ot3 => ?_
        obtain ⟨j, hj, ej⟩ := popAt_ints (ds := pool) (i := c) c0 c1
        simp [ej]
        refine ⟨by omega, Rcl_of ⟨ds ++ [pool[j]], pool.eraseIdx j, g3, rfl, by simp, by simp; omega, ?_, bx3.mono (by simp; omega), ot.trans ot3⟩⟩
        refine List.Perm.trans ?_ pm
        rw [List.append_assoc]
        exact (erase_perm pool j hj).append_left ds
      · rintro _ _ ⟨ds, pool, g, rfl, rfl, hl, pm, bx, ot⟩
        simp at hl
        have nd : (ds ++ pool).Nodup := pm.nodup_iff.mpr (nodup_rng (-9) 19)
        refine q _ _ ⟨by omega, by omega, (List.nodup_append.mp nd).1, fun d hd => ?_⟩ (bx.mono (by omega)) ot
        have := pm.mem_iff.mp (List.mem_append_left pool hd)
        simp at this
        omega
/-- all pairs of digits -/
def prodP (ds : List Int) : List (Int × Int) := ds.flatMap fun a => ds.map fun b => (a, b)
theorem prodP_len (ds : List Int) : (prodP ds).length = ds.length * ds.length := by
  have key : ∀ l : List Int, (l.flatMap fun a => ds.map fun b => (a, b)).length = l.length * ds.length := fun l => by
    induction l with
    | nil => simp
    | cons a l ih => simp [ih, Nat.add_mul, Nat.add_comm]
  exact key ds
theorem mem_prodP {ds : List Int} {p : Int × Int} : p ∈ prodP ds ↔ p.1 ∈ ds ∧ p.2 ∈ ds := by
  unfold prodP
  obtain ⟨a, b⟩ := p
  simp
theorem pairs_eq {ds : List Int} (hf : P f = some fnPairs) (hn : 1 ≤ n) (hl : ds.length ≤ 1000) : CC P n f [.lst (ds.map D.int)] h Q X = Q (.lst ((prodP ds).map prD)) h := by
  refine CC_det (fun Q X q => ?_) Q X
  have sz : sizeLine = 16777216 := sizeLine_eq
  refine CC_of hf (by omega) rfl ?_
  simp [fnPairs, startE, show ds.length ≤ sizeLine by omega]
  refine forB_list (CC_mono _) (fun xs st => ∃ (a b : List Int) (v : Sl), ds = a ++ b ∧ xs = b.map D.int ∧ st = ⟨[.shr (.lst (ds.map D.int)), .un, .shr (.lst ((a.flatMap fun x => ds.map fun y => (x, y)).map prD)), v], h⟩) ⟨[], ds, _, rfl, rfl, rfl⟩ ?_ ?_
  · rintro x xs _ ⟨a, b, v, e0, e, rfl⟩
    cases b with
    | nil => simp at e
    | cons i b =>
      simp at e
      obtain ⟨rfl, rfl⟩ := e
      simp [show ds.length ≤ sizeLine by omega]
      rw [lcB_map (fun x => prD (i, intD x)) ?lm]
      case lm =>
        intro x hx R
        obtain ⟨d, hd, rfl⟩ := List.mem_map.mp hx
        simp [intD, prD]
      have la : (a.flatMap fun x => ds.map fun y => (x, y)).length ≤ 1000000 := by
        have key : ∀ l : List Int, (l.flatMap fun a => ds.map fun b => (a, b)).length = l.length * ds.length := fun l => by
          induction l with
          | nil => simp
          | cons a l ih => simp [ih, Nat.add_mul, Nat.add_comm]
        rw [key]
        have e1 : a.length ≤ 1000 := by rw [e0] at hl; simp at hl; omega
        exact Nat.mul_le_mul e1 hl
      have em : (ds.map D.int).map (fun x => prD (i, intD x)) = (ds.map fun y => (i, y)).map prD := by rw [List.map_map, List.map_map]; rfl
      rw [em]
      simp only [z_Anil]
      generalize hL : (a.flatMap fun x => ds.map fun y => (x, y)) = L at la
      simp
      refine ⟨by omega, Rch_of ⟨a ++ [i], b, .shr (.int i), by simp [e0], rfl, ?_⟩⟩
      rw [List.flatMap_append, hL]
      simp
  · rintro _ ⟨a, b, v, e0, e, rfl⟩
    have : b = [] := by simpa using e
    subst this
    rw [List.append_nil] at e0
    subst e0
    simp
    simpa [prodP] using q
/-- a scheme as the laws draw it -/
structure SchOk (r : Int) (ds : List Int) (ps : List (Int × Int)) : Prop where
  base : isBase (.int r) = true
  dg : DigsOk ds
  inc : ds.Pairwise (· < ·)
  ps : ps.Sublist (prodP ds)
theorem SchOk.plen {r : Int} {ds : List Int} {ps : List (Int × Int)} (s : SchOk r ds ps) : ps.length ≤ 36 := by
  have h1 := s.ps.length_le
  rw [prodP_len] at h1
  have := Nat.mul_le_mul s.dg.l6 s.dg.l6
  omega
theorem SchOk.pmem {r : Int} {ds : List Int} {ps : List (Int × Int)} (s : SchOk r ds ps) {p : Int × Int} (h : p ∈ ps) : p.1 ∈ ds ∧ p.2 ∈ ds := mem_prodP.mp (s.ps.subset h)
theorem sortI_digs {ds : List Int} (d : DigsOk ds) : DigsOk (sortI ds) ∧ (sortI ds).Pairwise (· < ·) := by
  have p := sortI_perm ds
  have nd := p.nodup_iff.mpr d.nd
  refine ⟨⟨by rw [p.length_eq]; exact d.l1, by rw [p.length_eq]; exact d.l6, nd, fun x hx => d.b x (p.mem_iff.mp hx)⟩, ?_⟩
  refine List.Pairwise.imp ?_ ((sortI_pw ds).and nd)
  intro a b ⟨h1, h2⟩
  exact Int.lt_iff_le_and_ne.mpr ⟨h1, h2⟩
theorem filterMap_prs {ps : List (Int × Int)} {g : D → List D} {p : Int × Int → Bool} (h : ∀ x ∈ ps, g (prD x) = if p x then [prD x] else []) : (ps.map prD).flatMap g = (ps.filter p).map prD := by
  induction ps with
  | nil => rfl
  | cons x ps ih =>
    rw [List.map_cons, List.flatMap_cons, h x (by simp), ih fun y hy => h y (by simp [hy]), List.filter_cons]
    split <;> simp
theorem scheme_ok {t d p l K : Nat} (hf : P f = some (fnScheme t d p)) (tk : TakeP P t 1) (hd : P d = some (fnDigits t)) (hp : P p = some fnPairs) (hn : 3 ≤ n) (hx : Bx K h l) (hK : 50 ≤ K)
    (q : ∀ r ds ps h', SchOk r ds ps → Bx (K - 50) h' l → Ot l h h' → Q (.lst [.int r, .lst (ds.map D.int), .lst (ps.map prD)]) h') : CC P n f [.cell l] h Q X := by
  refine CC_of hf (by omega) rfl ?_
  have sz : sizeLine = 16777216 := sizeLine_eq
  have mC : MonC (CC P (n - 1)) := CC_mono _
  simp [fnScheme, startE]
  refine TakeP.use (by assumption) (by assumption) (by omega) (by first | decide | omega) (by first | decide | omega) (by omega) fun w g1 w0 w1 bx1 ot1 => ?_
  obtain ⟨rd, er, r, rfl, hr⟩ := atI_all (p := fun d => ∃ r : Int, d = .int r ∧ isBase (.int r) = true) (es := [D.int 2, D.int (-2), D.int 3, D.int (-3), D.int 2, D.int (-4), D.int 4, D.int 5, D.int (-5), D.int 6, D.int (-6)]) (by
    simp only [List.forall_mem_cons, List.not_mem_nil, false_implies, implies_true, and_true]
    refine ⟨⟨_, rfl, rfl⟩, ⟨_, rfl, rfl⟩, ⟨_, rfl, rfl⟩, ⟨_, rfl, rfl⟩, ⟨_, rfl, rfl⟩, ⟨_, rfl, rfl⟩, ⟨_, rfl, rfl⟩, ⟨_, rfl, rfl⟩, ⟨_, rfl, rfl⟩, ⟨_, rfl, rfl⟩, ⟨_, rfl, rfl⟩⟩) w0 (by simpa using w1)
  simp [er]
  refine callB_of (digits_ok hd tk (by omega) hr bx1 (by omega) fun ds g2 dok bx2 ot2 => ?_)
  have sd : sortD (ds.map D.int) = some ((sortI ds).map D.int) := by unfold sortD; rw [intsD_map]
  obtain ⟨dok2, inc⟩ := sortI_digs dok
  generalize sortI ds = es at *
  simp [sd]
  refine TakeP.use (by assumption) (by assumption) (by omega) (by first | decide | omega) (by first | decide | omega) (by omega) fun m g3 m0 m1 bx3 ot3 => ?_
  have ott := (ot1.trans ot2).trans ot3
  simp [callB]
  rw [pairs_eq hp (by omega) (by have := dok2.l6; omega)]
  have pl : (prodP es).length ≤ 36 := by rw [prodP_len]; exact Nat.mul_le_mul dok2.l6 dok2.l6
  by_cases hm : m = 0
  · simp [hm]
    exact q r es [] g3 ⟨hr, dok2, inc, List.nil_sublist _⟩ (bx3.mono (by omega)) ott
  · by_cases hm1 : m = 1
    · simp [hm, hm1, show (prodP es).length ≤ sizeLine by omega]
      rw [lcB_pure (fun x => if (pairD x).1 ≠ 0 ∧ (pairD x).2 ≠ 0 then [x] else []) ?lm]
      case lm =>
        intro x hx R
        obtain ⟨⟨a, b⟩, hd, rfl⟩ := List.mem_map.mp hx
        simp [prD, pairD, intD, atI, ixN]
        by_cases ha : a = 0 <;> by_cases hb : b = 0 <;> simp [ha, hb]
      rw [filterMap_prs (p := fun x => decide (x.1 ≠ 0 ∧ x.2 ≠ 0)) (fun x _ => by by_cases h1 : x.1 = 0 <;> by_cases h2 : x.2 = 0 <;> simp [prD, pairD, intD, h1, h2])]
      simp
      exact q r es _ g3 ⟨hr, dok2, inc, List.filter_sublist⟩ (bx3.mono (by omega)) ott
    · by_cases hm2 : m = 2
      · simp [hm, hm1, hm2, show (prodP es).length ≤ sizeLine by omega]
        rw [lcB_pure (fun x => if (pairD x).1 = (pairD x).2 then [x] else []) ?lm]
        case lm =>
          intro x hx R
          obtain ⟨⟨a, b⟩, hd, rfl⟩ := List.mem_map.mp hx
          simp [prD, pairD, intD, atI, ixN]
          by_cases ha : a = b <;> simp [ha]
        rw [filterMap_prs (p := fun x => decide (x.1 = x.2)) (fun x _ => by by_cases h1 : x.1 = x.2 <;> simp [prD, pairD, intD, h1])]
        simp
        exact q r es _ g3 ⟨hr, dok2, inc, List.filter_sublist⟩ (bx3.mono (by omega)) ott
      · simp [hm, hm1, hm2, show (prodP es).length ≤ sizeLine by omega]
        refine lcB_list mC (fun xs acc st => ∃ (a b ps : List (Int × Int)) (g : List CO), prodP es = a ++ b ∧ xs = b.map prD ∧ acc = ps.map prD ∧ ps.Sublist a ∧ st = ⟨[.shr (.cell l), .un, .shr (.int r), .shr (.lst (es.map D.int)), .shr (.int m), .shr (.lst ((prodP es).map prD))], g⟩ ∧ Bx (K - 50 + b.length) g l ∧ Ot l h g) ⟨[], prodP es, [], g3, rfl, rfl, rfl, List.nil_sublist _, rfl, bx3.mono (by omega), ott⟩ ?_ ?_
        · rintro x xs _ _ ⟨a, b, ps, g, e0, e, rfl, sb, rfl, bx, ot⟩
          cases b with
          | nil => simp at e
          | cons y b =>
            simp at e
            obtain ⟨rfl, rfl⟩ := e
            simp at bx
            simp
            refine TakeP.use (by assumption) (by assumption) (by omega) (by first | decide | omega) (by first | decide | omega) (by omega) fun c g4 c0 c1 bx4 ot4 => ?_
            by_cases hc : c = 0
            · simp [hc]
              exact Rcl_of ⟨a ++ [y], b, ps ++ [y], g4, by simp [e0], rfl, by simp, sb.append (List.Sublist.refl _), rfl, bx4.mono (by omega), ot.trans ot4⟩
            · simp [hc]
              exact Rcl_of ⟨a ++ [y], b, ps, g4, by simp [e0], rfl, rfl, sb.trans (List.sublist_append_left _ _), rfl, bx4.mono (by omega), ot.trans ot4⟩
        · rintro _ _ ⟨a, b, ps, g, e0, e, rfl, sb, rfl, bx, ot⟩
          have : b = [] := by simpa using e
          subst this
          rw [List.append_nil] at e0
          subst e0
          simp
          exact q r es ps g ⟨hr, dok2, inc, sb⟩ (bx.mono (by omega)) ot
end
end Mp
/-! good schemes: made, asked -/
namespace Mp
open PySem PySem.Spec L2
/-- making an object, as an equation -/
theorem makeB_det {P : Nat → Option Fn} {n c f : Nat} {fz : Bool} {ds : List D} {st : Stt} {d : D} {st' : Stt} (H : ∀ (Q : PD) (X : PX), Q d st' → makeB (CC P n) c fz f ds st Q X ⟨⟩ ⟨⟩ ⟨⟩) (Q : PD) (X : PX) {u : Hd (CC P n)} {v : Hd Q} {w : Hd X} : makeB (CC P n) c fz f ds st Q X u v w = Q d st' := by
  refine propext ⟨fun z => ?_, fun z => H Q X z⟩
  have y := H (fun d1 s1 => d1 = d ∧ s1 = st') (fun _ _ _ => False) ⟨rfl, rfl⟩
  unfold makeB at y z
  cases fz with
  | true =>
    rcases CC_ag n _ _ _ _ _ _ _ y z with ⟨d1, h1, ⟨y1, fs, y2, y3, y4, y5⟩, z1, fs', z2, z3, z4⟩ | ⟨k, fs, h1, ⟨_, _, y1⟩, _⟩
    · rw [y2] at z2
      have e : fs = fs' := by simpa using z2
      subst e
      rw [← y4, ← y5]
      exact z4
    · exact y1.elim
  | false =>
    rcases CC_ag n _ _ _ _ _ _ _ y z with ⟨d1, h1, ⟨y1, y4, y5⟩, z1, z4⟩ | ⟨k, fs, h1, y1, _⟩
    · rw [← y4, ← y5]
      exact z4
    · exact y1.elim
theorem makeB_detX {P : Nat → Option Fn} {n c f : Nat} {fz : Bool} {ds : List D} {st : Stt} {k : Nat} {gs : List D} {st' : Stt} (H : ∀ (Q : PD) (X : PX), X k gs st' → makeB (CC P n) c fz f ds st Q X ⟨⟩ ⟨⟩ ⟨⟩) (Q : PD) (X : PX) {u : Hd (CC P n)} {v : Hd Q} {w : Hd X} : makeB (CC P n) c fz f ds st Q X u v w = X k gs st' := by
  refine propext ⟨fun z => ?_, fun z => H Q X z⟩
  have y := H (fun _ _ => False) (fun k1 g1 s1 => k1 = k ∧ g1 = gs ∧ s1 = st') ⟨rfl, rfl, rfl⟩
  unfold makeB at y z
  cases fz with
  | true =>
    rcases CC_ag n _ _ _ _ _ _ _ y z with ⟨d1, h1, ⟨y1, fs, y2, y3, y4⟩, _⟩ | ⟨k1, fs, h1, ⟨_, _, y1, y2, y3⟩, _, _, z1⟩
    · exact y4.elim
    · rw [← y1, ← y2, ← y3]; exact z1
  | false =>
    rcases CC_ag n _ _ _ _ _ _ _ y z with ⟨d1, h1, ⟨y1, y4⟩, _⟩ | ⟨k1, fs, h1, ⟨y1, y2, y3⟩, z1⟩
    · exact y4.elim
    · rw [← y1, ← y2, ← y3]; exact z1
@[simp] theorem view_obj {h : List CO} {c : Nat} {ds : List D} : view h (.obj c ds) = .obj c ds := rfl
/-- a scheme's object -/
def schD (r : Int) (ds : List Int) (ps : List (Int × Int)) : D := .obj 0 [.int r, .tup (ds.map D.int), .tup (ps.map prD), .tup [.int r, .tup (ds.map D.int), .tup (ps.map prD)]]
@[simp] theorem view_sch {h : List CO} {r : Int} {ds : List Int} {ps : List (Int × Int)} : view h (schD r ds ps) = schD r ds ps := rfl
@[simp] theorem isObj_sch {r : Int} {ds : List Int} {ps : List (Int × Int)} : isObj 0 (schD r ds ps) = true := rfl
@[simp] theorem tyOk_sch {r : Int} {ds : List Int} {ps : List (Int × Int)} : tyOk (schD r ds ps) = true := rfl
@[simp] theorem eqR_sch {r : Int} {ds : List Int} {ps : List (Int × Int)} : eqR 0 (schD r ds ps) = true := rfl
theorem flat_prs {k : Nat} (l : List (Int × Int)) : flatDs (k + 1) (l.map prD) = true := by
  induction l with
  | nil => rfl
  | cons a l ih => simp [flatDs, flatD, prD, ih]
theorem eqDs_intsD (a b : List Int) : eqDs (a.map D.int) (b.map D.int) = decide (a = b) := by
  induction a generalizing b with
  | nil => cases b <;> simp [eqDs]
  | cons x a ih => cases b with
    | nil => simp [eqDs]
    | cons y b => simp [ih]
theorem eqDs_prsD (a b : List (Int × Int)) : eqDs (a.map prD) (b.map prD) = decide (a = b) := by
  induction a generalizing b with
  | nil => cases b <;> simp [eqDs]
  | cons x a ih => cases b with
    | nil => simp [eqDs]
    | cons y b =>
      obtain ⟨x1, x2⟩ := x
      obtain ⟨y1, y2⟩ := y
      simp [prD] at ih ⊢
      rw [ih]
theorem eqD_prD (a b : Int × Int) : eqD (prD a) (prD b) = decide (a = b) := by
  obtain ⟨x1, x2⟩ := a
  obtain ⟨y1, y2⟩ := b
  simp [prD]
theorem any_prD (l : List (Int × Int)) (p : Int × Int) : (l.map prD).any (fun z => eqD z (prD p)) = decide (p ∈ l) := by
  rw [List.any_map]
  apply Bool.eq_iff_iff.mpr
  simp only [List.any_eq_true, Function.comp, eqD_prD, decide_eq_true_eq]
  exact ⟨fun ⟨x, h, e⟩ => e ▸ h, fun h => ⟨p, h, rfl⟩⟩
theorem any_intD (l : List Int) (i : Int) : (l.map D.int).any (fun z => eqD z (.int i)) = decide (i ∈ l) := by
  rw [List.any_map]
  apply Bool.eq_iff_iff.mpr
  simp only [List.any_eq_true, Function.comp, eqD_int, decide_eq_true_eq]
  exact ⟨fun ⟨x, h, e⟩ => e ▸ h, fun h => ⟨i, h, rfl⟩⟩
/-- good arguments of Scheme -/
structure GA (r : Int) (ds : List Int) (ps : List (Int × Int)) : Prop where
  base : isBase (.int r) = true
  b : ∀ d ∈ ds, -9 ≤ d ∧ d ≤ 9
  l1 : 1 ≤ (ordI ds).length
  l6 : (ordI ds).length ≤ 6
  dl : ds.length < 64
  pl : ps.length < 64
  pm : ∀ p ∈ ps, p.1 ∈ ds ∧ p.2 ∈ ds
theorem isDig_int {i : Int} : isDig (.int i) = true ↔ -9 ≤ i ∧ i ≤ 9 := by simp [isInD]
theorem isPr_prD {p : Int × Int} {gs : List Int} : isPr (prD p) gs = true ↔ ((-9 ≤ p.1 ∧ p.1 ≤ 9) ∧ p.1 ∈ gs) ∧ (-9 ≤ p.2 ∧ p.2 ≤ 9) ∧ p.2 ∈ gs := by
  obtain ⟨a, b⟩ := p
  simp [isPr, prD, isInD, intD]
theorem pairD_prD (ps : List (Int × Int)) : (ps.map prD).map pairD = ps := by
  rw [List.map_map]
  conv => rhs; rw [← List.map_id ps]
  exact List.map_congr_left fun x _ => rfl
theorem intD_int (ds : List Int) : (ds.map D.int).map intD = ds := by
  rw [List.map_map]
  conv => rhs; rw [← List.map_id ds]
  exact List.map_congr_left fun x _ => rfl
theorem schemeOf_good {r : Int} {ds : List Int} {ps : List (Int × Int)} {d b dv bv : D} (g : GA r ds ps) (hd : dv = .lst (ds.map D.int) ∨ dv = .tup (ds.map D.int)) (hb : bv = .lst (ps.map prD) ∨ bv = .tup (ps.map prD)) :
    schemeOf (.int r) d b dv bv = .ok [.int r, .tup ((ordI ds).map D.int), .tup ((ordP ps).map prD), .tup [.int r, .tup ((ordI ds).map D.int), .tup ((ordP ps).map prD)]] := by
  have e1 : digList dv [] 1 = true := by
    have : (ds.map D.int).all isDig = true := by
      rw [List.all_eq_true]
      intro x hx
      obtain ⟨i, hi, rfl⟩ := List.mem_map.mp hx
      exact isDig_int.mpr (g.b i hi)
    have l1 := g.l1
    have l6 := g.l6
    rcases hd with rfl | rfl <;> simp only [digList, this, intD_int, List.append_nil, Bool.true_and, Bool.and_eq_true, decide_eq_true_eq] <;> exact ⟨by omega, l6⟩
  have e2 : isLst bv = true := by rcases hb with rfl | rfl <;> rfl
  have e3 : seqD dv = some (ds.map D.int) := by rcases hd with rfl | rfl <;> rfl
  have e4 : seqD bv = some (ps.map prD) := by rcases hb with rfl | rfl <;> rfl
  unfold schemeOf
  rw [if_neg (by rw [g.base]; decide), if_neg (by rw [e1]; decide), if_neg (by rw [e2]; decide), e3, e4]
  simp only [Option.getD_some, intD_int, pairD_prD]
  rw [List.find?_eq_none.mpr (fun x hx => by
    obtain ⟨p, hp, rfl⟩ := List.mem_map.mp hx
    have := g.pm p hp
    simp only [isPr_prD.mpr ⟨⟨g.b _ this.1, this.1⟩, g.b _ this.2, this.2⟩, Bool.not_true, Bool.false_eq_true, not_false_eq_true])]
theorem cellsLts_ints (n : Nat) (l : List Int) : cellsLts n (l.map D.int) = true := by
  induction l with
  | nil => rfl
  | cons x l ih => simp only [List.map_cons, cellsLts, cellsLt, ih, Bool.and_self]
theorem cellsLts_prs (n : Nat) (l : List (Int × Int)) : cellsLts n (l.map prD) = true := by
  induction l with
  | nil => rfl
  | cons x l ih => simp only [List.map_cons, prD, cellsLts, cellsLt, ih, Bool.and_self]
theorem digOk_of {h : List CO} {d : D} {ds : List Int} (c : cellsLt h.length d = true) (e : view h d = .lst (ds.map D.int) ∨ view h d = .tup (ds.map D.int)) (l : ds.length < 64) : DigOk h d where
  c := c
  ty := by rcases e with e | e <;> rw [e] <;> rfl
  it := fun es hs => by
    have : es = ds.map D.int := by rcases e with e | e <;> rw [e] at hs <;> cases hs <;> rfl
    subst this
    exact ⟨fun x hx => by obtain ⟨i, _, rfl⟩ := List.mem_map.mp hx; rfl, by simpa using l⟩
theorem barOk_of {h : List CO} {d : D} {ps : List (Int × Int)} (c : cellsLt h.length d = true) (e : view h d = .lst (ps.map prD) ∨ view h d = .tup (ps.map prD)) (l : ps.length < 64) : BarOk h d where
  c := c
  ty := by rcases e with e | e <;> rw [e] <;> rfl
  it := fun es hs => by
    have : es = ps.map prD := by rcases e with e | e <;> rw [e] at hs <;> cases hs <;> rfl
    subst this
    refine ⟨by simpa using l, fun x hx => ?_⟩
    obtain ⟨p, _, rfl⟩ := List.mem_map.mp hx
    refine ⟨rfl, rfl, fun fs e => ?_⟩
    cases e
    exact ⟨fun y hy => by simp at hy; rcases hy with rfl | rfl <;> rfl, by simp⟩
section
variable {P : Nat → Option Fn} (hP : HL P) {n : Nat} {h : List CO} {Q : D → List CO → Prop} {X : Nat → List D → List CO → Prop}
include hP
/-- Scheme(r, d, bars=b) of good arguments -/
theorem make_good {r : Int} {ds : List Int} {ps : List (Int × Int)} {d b : D} {e : List Sl} {Q : PD} {X : PX} {u : Hd (CC P n)} {v : Hd Q} {w : Hd X} (hn : 5 ≤ n) (g : GA r ds ps) (hd : view h d = .lst (ds.map D.int) ∨ view h d = .tup (ds.map D.int)) (hb : view h b = .lst (ps.map prD) ∨ view h b = .tup (ps.map prD))
    (cd : cellsLt h.length d = true) (cb : cellsLt h.length b = true) : makeB (CC P n) 0 true 500 [.cell h.length, .int r, d, b] ⟨e, h⟩ Q X u v w = Q (schD r (ordI ds) (ordP ps)) ⟨e, h⟩ := by
  refine makeB_det (fun Q X q => ?_) Q X
  refine make_scheme hP hn rfl rfl (digOk_of cd hd g.dl) (barOk_of cb hb g.pl) ?_
  rw [schemeOf_good g hd hb]
  exact q
section
variable {r : Int} {ds : List Int} {ps : List (Int × Int)}
theorem base_eq (hn : 1 ≤ n) : CC P n 501 [schD r ds ps] h Q X = Q (.int r) h := by
  rw [CC_eq (fn := fn_Scheme_base) (hP.l 501 (by decide)) hn rfl]
  simp [fn_Scheme_base, startE, schD, show fldIx 0 (Str.ofString "own_base") = some 0 by decide +kernel]
theorem digits_eq (hn : 1 ≤ n) : CC P n 502 [schD r ds ps] h Q X = Q (.tup (ds.map D.int)) h := by
  rw [CC_eq (fn := fn_Scheme_digits) (hP.l 502 (by decide)) hn rfl]
  simp [fn_Scheme_digits, startE, schD, show fldIx 0 (Str.ofString "own_digits") = some 1 by decide +kernel]
theorem bars_eq (hn : 1 ≤ n) : CC P n 503 [schD r ds ps] h Q X = Q (.tup (ps.map prD)) h := by
  rw [CC_eq (fn := fn_Scheme_bars) (hP.l 503 (by decide)) hn rfl]
  simp [fn_Scheme_bars, startE, schD, show fldIx 0 (Str.ofString "own_bars") = some 2 by decide +kernel]
theorem len_eq (hn : 1 ≤ n) : CC P n 505 [schD r ds ps] h Q X = Q (.int ds.length) h := by
  rw [CC_eq (fn := fn_Scheme___len__) (hP.l 505 (by decide)) hn rfl]
  simp [fn_Scheme___len__, startE, schD, show fldIx 0 (Str.ofString "own_digits") = some 1 by decide +kernel]
theorem eq_eq {r' : Int} {ds' : List Int} {ps' : List (Int × Int)} (hn : 1 ≤ n) : CC P n 504 [schD r ds ps, schD r' ds' ps'] h Q X = Q (.bl (decide (r = r' ∧ ds = ds' ∧ ps = ps'))) h := by
  rw [CC_eq (fn := fn_Scheme___eq__) (hP.l 504 (by decide)) hn rfl]
  simp [fn_Scheme___eq__, startE, schD, show fldIx 0 (Str.ofString "own_parts") = some 3 by decide +kernel, eqOk, flatD, flatDs, flat_ints, flat_prs, eqDs_intsD, eqDs_prsD]
theorem eq_oth {d : D} (hn : 1 ≤ n) (ht : tyOk (view h d) = true) (hd : isObj 0 (view h d) = false) : CC P n 504 [schD r ds ps, d] h Q X = Q (.bl false) h := by
  rw [CC_eq (fn := fn_Scheme___eq__) (hP.l 504 (by decide)) hn rfl]
  have : tyD (view h d) (.own 0) = false := by
    cases hv : view h d <;> rw [hv] at hd <;> first | rfl | exact hd
  simp [fn_Scheme___eq__, startE, ht, this]
end
end
end Mp
/-! repr of plain data is told: no too long text -/
namespace Mp
open PySem PySem.Spec L2
theorem piled_le {m : Nat} : ∀ {ts : List Str}, (∀ t ∈ ts, t.length ≤ m) → piled ts ≤ ts.length * (m + 2)
  | [], _ => by simp [piled]
  | t :: ts, h => by
    have := piled_le fun u hu => h u (List.mem_cons_of_mem t hu)
    have := h t (by simp)
    rw [piled_cons, List.length_cons, Nat.add_mul]
    omega
theorem listText_len (ts : List Str) : (listText ts).length ≤ piled ts + 2 := by
  cases ts with
  | nil => decide +kernel
  | cons t r =>
    have h := textFrom_length_pos r 1 (("[" : Str) ++ (if (0 : Nat) > 0 then ", " else "" : String) ++ t) (Nat.succ_pos 0)
    have e : ((("[" : Str) ++ (if (0 : Nat) > 0 then ", " else "" : String) ++ t)).length = 1 + t.length := by
      rw [len_app, len_app]
      rfl
    have hX : (listText (t :: r)).length = (textFrom 0 "[" (t :: r)).length + 1 := by
      unfold listText
      rw [len_app]
      rfl
    have hY : (textFrom 0 "[" (t :: r)).length = (textFrom 1 (("[" : Str) ++ (if (0 : Nat) > 0 then ", " else "" : String) ++ t) r).length := rfl
    rw [piled_cons]
    omega
theorem join_len2 (ts : List Str) : (Str.join ", " ts).length ≤ piled ts := by
  cases ts with
  | nil => decide +kernel
  | cons t r => have := join_length_add (t :: r) (by simp); omega
theorem tupleText_len (ts : List Str) : (tupleText ts).length ≤ piled ts + 3 := by
  unfold tupleText
  have := join_len2 ts
  rw [len_app, len_app]
  have e1 : (("(" : String) : Str).length = 1 := by decide +kernel
  have e2 : ((if ts.length == 1 then ",)" else ")" : String) : Str).length ≤ 2 := by split <;> decide +kernel
  omega
theorem dictText_len (ts : List Str) : (dictText ts).length ≤ piled ts + 2 := by
  unfold dictText
  have := join_len2 ts
  rw [len_app, len_app]
  have e1 : (("{" : String) : Str).length = 1 := by decide +kernel
  have e2 : (("}" : String) : Str).length = 1 := by decide +kernel
  omega
/-- repr of d is told, not too deep, not too long -/
structure Rp (k m : Nat) (d : D) : Prop where
  ok : rokD k d = true
  sh : (toR d).showable = true
  sz : (toR d).shown.length ≤ m
mutual
theorem rokD_up : ∀ {d : D} {k : Nat}, rokD k d = true → rokD (k + 1) d = true
  | .non, _, _ => by simp [rokD]
  | .bl _, _, _ => by simp [rokD]
  | .int _, _, _ => by simp [rokD]
  | .str _, _, h => by simp [rokD]
  | .tup ds, 0, h => by simp [rokD] at h
  | .tup ds, k + 1, h => by
    simp only [rokD] at h ⊢
    exact rokDs_up h
  | .lst ds, 0, h => by simp [rokD] at h
  | .lst ds, k + 1, h => by
    simp only [rokD] at h ⊢
    exact rokDs_up h
  | .dic _ _, 0, h => by simp [rokD] at h
  | .dic ks vs, k + 1, h => by
    simp only [rokD, Bool.and_eq_true] at h ⊢
    exact ⟨⟨h.1.1, rokDs_up h.1.2⟩, rokDs_up h.2⟩
  | .obj _ _, _, h => by simp [rokD] at h
  | .exc _ _, _, h => by simp [rokD] at h
  | .cell _, _, h => by simp [rokD] at h
  | .scr _, _, h => by simp [rokD] at h
theorem rokDs_up : ∀ {ds : List D} {k : Nat}, rokDs k ds = true → rokDs (k + 1) ds = true
  | [], _, _ => by simp [rokDs]
  | d :: ds, k, h => by
    simp only [rokDs, Bool.and_eq_true] at h ⊢
    exact ⟨rokD_up h.1, rokDs_up h.2⟩
end
theorem rokD_le {d : D} {k j : Nat} (h : rokD k d = true) (hj : k ≤ j) : rokD j d = true := by
  induction hj with
  | refl => exact h
  | step _ ih => exact rokD_up ih
theorem Rp.mono {k m k' m' : Nat} {d : D} (h : Rp k m d) (hk : k ≤ k') (hm : m ≤ m') : Rp k' m' d := ⟨rokD_le h.ok hk, h.sh, Nat.le_trans h.sz hm⟩
theorem toRs_map (ds : List D) : toRs ds = ds.map toR := by
  induction ds with
  | nil => rfl
  | cons d ds ih => simp [toRs, ih]
theorem shownAll_map (ds : List PyData) : PyData.shownAll ds = ds.map PyData.shown := by
  induction ds with
  | nil => rfl
  | cons d ds ih => simp [PyData.shownAll, ih]
theorem showableAll_of {ds : List PyData} (h : ∀ x ∈ ds, x.showable = true) : PyData.showableAll ds = true := by
  induction ds with
  | nil => simp [PyData.showableAll]
  | cons d ds ih => simp [PyData.showableAll, h d (by simp), ih fun x hx => h x (by simp [hx])]
theorem rokDs_of {k : Nat} {ds : List D} (h : ∀ x ∈ ds, rokD k x = true) : rokDs k ds = true := by
  induction ds with
  | nil => simp [rokDs]
  | cons d ds ih => simp [rokDs, h d (by simp), ih fun x hx => h x (by simp [hx])]
theorem Rp.piled {k m : Nat} {ds : List D} (h : ∀ x ∈ ds, Rp k m x) : PySem.piled (PyData.shownAll (toRs ds)) ≤ ds.length * (m + 2) := by
  have : (PyData.shownAll (toRs ds)).length = ds.length := by rw [toRs_map, shownAll_map]; simp
  rw [← this]
  refine piled_le fun t ht => ?_
  rw [toRs_map, shownAll_map, List.map_map] at ht
  obtain ⟨x, hx, rfl⟩ := List.mem_map.mp ht
  exact (h x hx).sz
theorem Rp.lst {k m : Nat} {ds : List D} (h : ∀ x ∈ ds, Rp k m x) : Rp (k + 1) (ds.length * (m + 2) + 2) (.lst ds) where
  ok := by simp only [rokD]; exact rokDs_of fun x hx => (h x hx).ok
  sh := by
    simp only [toR, PyData.showable]
    refine showableAll_of fun x hx => ?_
    rw [toRs_map] at hx
    obtain ⟨y, hy, rfl⟩ := List.mem_map.mp hx
    exact (h y hy).sh
  sz := by
    simp only [toR, PyData.shown]
    have := listText_len (PyData.shownAll (toRs ds))
    have := Rp.piled h
    omega
theorem Rp.tup {k m : Nat} {ds : List D} (h : ∀ x ∈ ds, Rp k m x) : Rp (k + 1) (ds.length * (m + 2) + 3) (.tup ds) where
  ok := by simp only [rokD]; exact rokDs_of fun x hx => (h x hx).ok
  sh := by
    simp only [toR, PyData.showable]
    refine showableAll_of fun x hx => ?_
    rw [toRs_map] at hx
    obtain ⟨y, hy, rfl⟩ := List.mem_map.mp hx
    exact (h y hy).sh
  sz := by
    simp only [toR, PyData.shown]
    have := tupleText_len (PyData.shownAll (toRs ds))
    have := Rp.piled h
    omega
theorem Rp.lstN {k m n : Nat} {ds : List D} (h : ∀ x ∈ ds, Rp k m x) (hl : ds.length ≤ n) : Rp (k + 1) (n * (m + 2) + 2) (.lst ds) := (Rp.lst h).mono (Nat.le_refl _) (Nat.add_le_add_right (Nat.mul_le_mul_right _ hl) 2)
theorem Rp.tupN {k m n : Nat} {ds : List D} (h : ∀ x ∈ ds, Rp k m x) (hl : ds.length ≤ n) : Rp (k + 1) (n * (m + 2) + 3) (.tup ds) := (Rp.tup h).mono (Nat.le_refl _) (Nat.add_le_add_right (Nat.mul_le_mul_right _ hl) 3)
/-- by computing -/
def rpB (k m : Nat) (d : D) : Bool := rokD k d && (toR d).showable && decide ((toR d).shown.length ≤ m)
theorem Rp.of {k m : Nat} {d : D} (h : rpB k m d = true) : Rp k m d := by
  unfold rpB at h
  simp only [Bool.and_eq_true, decide_eq_true_eq] at h
  exact ⟨h.1.1, h.1.2, h.2⟩
theorem Rp.small {i : Int} (h1 : -100 ≤ i) (h2 : i ≤ 100) : Rp 0 4 (.int i) := by
  have key : ∀ k : Fin 201, rpB 0 4 (.int ((k.val : Int) - 100)) = true := by decide +kernel
  have := key ⟨(i + 100).toNat, by omega⟩
  have e : (((i + 100).toNat : Nat) : Int) - 100 = i := by omega
  simp only [e] at this
  exact .of this
theorem Rp.ints {ds : List Int} {n : Nat} (h : ∀ d ∈ ds, -100 ≤ d ∧ d ≤ 100) (hl : ds.length ≤ n) : Rp 1 (n * 6 + 3) (.tup (ds.map D.int)) :=
  Rp.tupN (k := 0) (m := 4) (fun x hx => by obtain ⟨i, hi, rfl⟩ := List.mem_map.mp hx; exact Rp.small (h i hi).1 (h i hi).2) (by simpa using hl)
theorem Rp.prD {p : Int × Int} (h1 : -100 ≤ p.1 ∧ p.1 ≤ 100) (h2 : -100 ≤ p.2 ∧ p.2 ≤ 100) : Rp 1 15 (prD p) :=
  Rp.tupN (k := 0) (m := 4) (n := 2) (fun x hx => by simp at hx; rcases hx with rfl | rfl; exact Rp.small h1.1 h1.2; exact Rp.small h2.1 h2.2) (by simp)
theorem Rp.eq {k m : Nat} {d : D} (h : Rp k m d) (hk : k ≤ 50) (hm : m ≤ 16777216) : reprD d = some (toR d).shown := by
  unfold reprD
  have sz : sizeLine = 16777216 := sizeLine_eq
  rw [if_pos]
  simp only [Bool.and_eq_true, decide_eq_true_eq]
  exact ⟨⟨rokD_le h.ok hk, h.sh⟩, by have := h.sz; omega⟩
end Mp
/-! schemes asked: has, allows, in, value_of -/
namespace Mp
open PySem PySem.Spec L2
def hasB (ds : List Int) (d : D) : Bool := isDig d && ds.contains (intD d)
def allowsB (ds : List Int) (ps : List (Int × Int)) (a b : D) : Bool := hasB ds a && (isNonD b || (hasB ds b && !ps.contains (intD a, intD b)))
/-- no barred neighbours -/
def freeL (ps : List (Int × Int)) (xs : List Int) : Bool := (xs.zip xs.tail).all fun p => !ps.contains p
def isRow (ds : List Int) (ps : List (Int × Int)) : D → Bool
  | .tup es => es.all (hasB ds) && freeL ps (es.map intD)
  | _ => false
def valI (r : Int) (xs : List Int) : Int := xs.foldl (fun t d => t * r + d) 0
theorem hasB_int {ds : List Int} {d : D} (h : hasB ds d = true) : ∃ i, d = .int i ∧ -9 ≤ i ∧ i ≤ 9 ∧ i ∈ ds := by
  unfold hasB at h
  rw [Bool.and_eq_true] at h
  refine ⟨intD d, dig_int h.1, ?_⟩
  have h1 := h.1
  rw [dig_int h.1] at h1
  have := isDig_int.mp h1
  exact ⟨this.1, this.2, by simpa using h.2⟩
theorem hasB_of {ds : List Int} {i : Int} (h : -9 ≤ i ∧ i ≤ 9) : hasB ds (.int i) = ds.contains i := by
  unfold hasB
  rw [isDig_int.mpr h]
  rfl
theorem hasB_all {ds : List Int} {es : List D} (h : es.all (hasB ds) = true) : es = (es.map intD).map D.int ∧ ∀ i ∈ es.map intD, -9 ≤ i ∧ i ≤ 9 ∧ i ∈ ds := by
  constructor
  · rw [List.map_map]
    conv => lhs; rw [← List.map_id es]
    refine List.map_congr_left fun x hx => ?_
    obtain ⟨i, rfl, _⟩ := hasB_int (List.all_eq_true.mp h x hx)
    rfl
  · intro i hi
    obtain ⟨x, hx, rfl⟩ := List.mem_map.mp hi
    obtain ⟨i, rfl, h1⟩ := hasB_int (List.all_eq_true.mp h x hx)
    exact h1
theorem isRow_ints {ds : List Int} {ps : List (Int × Int)} {xs : List Int} (hb : ∀ d ∈ ds, -9 ≤ d ∧ d ≤ 9) : isRow ds ps (.tup (xs.map D.int)) = (xs.all (fun x => ds.contains x) && freeL ps xs) := by
  show (((xs.map D.int).all (hasB ds)) && freeL ps ((xs.map D.int).map intD)) = _
  rw [intD_int]
  congr 1
  rw [List.all_map]
  congr 1
  funext x
  show hasB ds (.int x) = _
  by_cases hx : x ∈ ds
  · rw [hasB_of (hb x hx)]
  · unfold hasB
    have : ds.contains x = false := by simpa using hx
    show (_ && ds.contains x) = _
    rw [this, Bool.and_false]
theorem isRow_inv {ds : List Int} {ps : List (Int × Int)} {d : D} (h : isRow ds ps d = true) : ∃ xs : List Int, d = .tup (xs.map D.int) ∧ (∀ x ∈ xs, x ∈ ds) ∧ freeL ps xs = true := by
  cases d with
  | tup es =>
    unfold isRow at h
    rw [Bool.and_eq_true] at h
    obtain ⟨h1, h2⟩ := hasB_all h.1
    exact ⟨es.map intD, by rw [← h1], fun x hx => (h2 x hx).2.2, h.2⟩
  | _ => cases h
theorem zipW_ints (xs : List Int) (ys : List Int) : List.zipWith (fun x y => D.tup [x, y]) (xs.map D.int) (ys.map D.int) = (xs.zip ys).map prD := by
  induction xs generalizing ys with
  | nil => simp
  | cons x xs ih => cases ys with
    | nil => simp
    | cons y ys => simp [prD] at ih ⊢; exact ih ys
@[simp] theorem it_zipTT {a b : List D} : itD .zip2 [.tup a, .tup b] = some (List.zipWith (fun x y => D.tup [x, y]) a b) := rfl
section
variable {P : Nat → Option Fn} (hP : HL P) {n : Nat} {h : List CO} {Q : D → List CO → Prop} {X : Nat → List D → List CO → Prop} {r : Int} {ds : List Int} {ps : List (Int × Int)}
include hP
theorem has_eq {d : D} (hn : 3 ≤ n) (hv : tyOk d = true) : CC P n 506 [schD r ds ps, d] h Q X = Q (.bl (hasB ds d)) h := by
  rw [CC_eq (fn := fn_Scheme_has) (hP.l 506 (by decide)) (by omega) rfl]
  have f1 : fldIx 0 (Str.ofString "own_digits") = some 1 := by decide +kernel
  simp [fn_Scheme_has, startE, callB]
  rw [is_digit_eq hP (by omega) hv]
  unfold hasB
  cases hd : isInD d (-9) 9 with
  | false => simp [hd]
  | true =>
    obtain ⟨i, rfl⟩ : ∃ i, d = .int i := ⟨_, dig_int hd⟩
    have e1 := any_intD ds i
    simp [-List.any_map, hd, schD, f1, e1, flatD, flat_ints, intD]
theorem has_oth {d : D} (hn : 3 ≤ n) (hv : tyOk (view h d) = true) (hd : tyD (view h d) .int = false) : CC P n 506 [schD r ds ps, d] h Q X = Q (.bl false) h := by
  rw [CC_eq (fn := fn_Scheme_has) (hP.l 506 (by decide)) (by omega) rfl]
  simp [fn_Scheme_has, startE, callB]
  rw [CC_eq (fn := fn_is_digit) (hP.l 2 (by decide)) (by omega) rfl]
  simp [fn_is_digit, startE, callB]
  rw [CC_eq (fn := fn_is_integer) (hP.l 0 (by decide)) (by omega) rfl]
  simp [fn_is_integer, startE, hv, hd]
theorem allows_eq {a b : D} (hn : 4 ≤ n) (ha : tyOk a = true) (hb : tyOk b = true) : CC P n 507 [schD r ds ps, a, b] h Q X = Q (.bl (allowsB ds ps a b)) h := by
  rw [CC_eq (fn := fn_Scheme_allows) (hP.l 507 (by decide)) (by omega) rfl]
  have f2 : fldIx 0 (Str.ofString "own_bars") = some 2 := by decide +kernel
  unfold allowsB
  simp [fn_Scheme_allows, startE, callB, isIn, isEqM, methQ]
  rw [has_eq hP (by omega) ha]
  cases h1 : hasB ds a with
  | false => simp
  | true =>
    obtain ⟨i, rfl, i1, i2, i3⟩ := hasB_int h1
    by_cases hN : b = .non
    · subst hN
      simp [isNonD]
    · have nb : isNonD b = false := by
        cases b with
        | non => exact absurd rfl hN
        | _ => rfl
      simp [view_ok hb, nb, isIn, isEqM, methQ, callB]
      rw [has_eq hP (by omega) hb]
      cases h2 : hasB ds b with
      | false => simp
      | true =>
        obtain ⟨j, rfl, j1, j2, j3⟩ := hasB_int h2
        have e1 := any_prD ps (i, j)
        simp [-List.any_map, prD] at e1
        simp [-List.any_map, schD, f2, flatD, flatDs, flat_prs, intD]
        rw [e1]
        by_cases hm : (i, j) ∈ ps <;> simp [hm]
theorem contains_eq {d : D} (hn : 4 ≤ n) (hv : tyOk d = true) (hs : ∀ es, d = .tup es → (∀ x ∈ es, tyOk x = true) ∧ es.length ≤ 1000000) : CC P n 508 [schD r ds ps, d] h Q X = Q (.bl (isRow ds ps d)) h := by
  have sz : sizeLine = 16777216 := sizeLine_eq
  rw [CC_eq (fn := fn_Scheme___contains__) (hP.l 508 (by decide)) (by omega) rfl]
  have f2 : fldIx 0 (Str.ofString "own_bars") = some 2 := by decide +kernel
  by_cases ht : ∃ es, d = .tup es
  · obtain ⟨es, rfl⟩ := ht
    obtain ⟨t1, t2⟩ := hs es rfl
    simp [fn_Scheme___contains__, startE, show es.length ≤ sizeLine by omega]
    rw [lcB_map (fun x => .bl (hasB ds x)) ?lm]
    case lm =>
      intro x hx R
      simp [isIn, isEqM, callB, methQ]
      rw [has_eq hP (by omega) (t1 x hx)]
    simp only [z_Anil]
    simp [blsD_mapF]
    unfold isRow
    cases ha : es.all (hasB ds) with
    | false =>
      rw [if_pos]
      · simp [ha]
      · rw [List.all_eq_false] at ha
        obtain ⟨x, hx, e⟩ := ha
        exact ⟨x, hx, by simpa using e⟩
    | true =>
      rw [if_neg]
      · obtain ⟨e1, e2⟩ := hasB_all ha
        generalize es.map intD = xs at e1 e2
        subst e1
        have e3 : cutL (xs.map D.int) (some 1) none = xs.tail.map D.int := by rw [← List.drop_one, List.map_drop]; exact cutL_drop (xs.map D.int) 1
        simp at t2
        have lz : (List.zipWith (fun x y => D.tup [x, y]) (xs.map D.int) (xs.tail.map D.int)).length ≤ sizeLine := by simp; omega
        simp [e3] at lz ⊢
        rw [and_iff_right (by omega)]
        have ez : List.zipWith (fun x y => D.tup [x, y]) (xs.map D.int) (xs.map D.int).tail = (xs.zip xs.tail).map prD := by rw [← List.map_tail, zipW_ints]
        rw [ez, lcB_map (fun x => .bl (!ps.contains (pairD x))) ?lm2]
        case lm2 =>
          intro x hx R
          obtain ⟨p, hp, rfl⟩ := List.mem_map.mp hx
          have e1 := any_prD ps p
          have e2 : flatD 50 (prD p) = true := rfl
          have e3 : view h (prD p) = prD p := rfl
          have e4 : pairD (prD p) = p := rfl
          by_cases hm : p ∈ ps <;> simp [-List.any_map, schD, f2, e1, e2, e3, e4, flat_prs, hm]
        simp only [z_Anil]
        have eb : blsD (((xs.zip xs.tail).map prD).map fun x => D.bl (!ps.contains (pairD x))) = some ((xs.zip xs.tail).map fun p => !ps.contains p) := by
          rw [blsD_mapF, List.map_map]
          rfl
        simp only [z_all, List.map_cons, List.map_nil, view_lst]
        rw [eb, bindO_some]
        have e5 : xs.all (hasB ds ∘ D.int) = true := by rw [← List.all_map]; exact ha
        have e6 : xs.map (intD ∘ D.int) = xs := by rw [← List.map_map]; exact intD_int xs
        rw [e5, e6, Bool.true_and, List.all_map]
        rfl
      · rintro ⟨x, hx, e⟩
        rw [List.all_eq_true.mp ha x hx] at e
        cases e
  · have e0 : isRow ds ps d = false := by
      cases d with
      | tup es => exact absurd ⟨es, rfl⟩ ht
      | _ => rfl
    have e1 : tyD d .tuple = false := by
      cases d with
      | tup es => exact absurd ⟨es, rfl⟩ ht
      | _ => rfl
    simp [fn_Scheme___contains__, startE, view_ok hv, hv, e0, e1]
theorem value_of_eq {xs : List Int} (hn : 5 ≤ n) (hb : -100 ≤ r ∧ r ≤ 100) (hl : xs.length ≤ 1000000) (hr : isRow ds ps (.tup (xs.map D.int)) = true) : CC P n 509 [schD r ds ps, .tup (xs.map D.int)] h Q X = Q (.int (valI r xs)) h := by
  refine CC_det (fun Q X q => ?_) Q X
  have sz : sizeLine = 16777216 := sizeLine_eq
  have f1 : fldIx 0 (Str.ofString "own_base") = some 0 := by decide +kernel
  refine CC_of (fn := fn_Scheme_value_of) (hP.l 509 (by decide)) (by omega) rfl ?_
  simp [fn_Scheme_value_of, startE, isIn, isEqM, callB, methQ]
  rw [contains_eq hP (by omega) rfl (fun es e => by cases e; exact ⟨fun x hx => by obtain ⟨i, _, rfl⟩ := List.mem_map.mp hx; rfl, by simpa using hl⟩), hr]
  simp [show xs.length ≤ sizeLine by omega]
  refine forB_list (CC_mono _) (fun ys st => ∃ (a b : List Int) (v : Sl), xs = a ++ b ∧ ys = b.map D.int ∧ st = ⟨[.shr (schD r ds ps), .shr (.tup (xs.map D.int)), .shr (.int (valI r a)), v], h⟩) ⟨[], xs, _, rfl, rfl, rfl⟩ ?_ ?_
  · rintro x ys _ ⟨a, b, v, e0, e, rfl⟩
    cases b with
    | nil => simp at e
    | cons i b =>
      simp at e
      obtain ⟨rfl, rfl⟩ := e
      have cm : CMul (valI r a) r := .inr ⟨by omega, by omega⟩
      simp [schD, f1, cm]
      refine Rch_of ⟨a ++ [i], b, .shr (.int i), by simp [e0], rfl, ?_⟩
      simp [valI, schD]
  · rintro _ ⟨a, b, v, e0, e, rfl⟩
    have : b = [] := by simpa using e
    subst this
    rw [List.append_nil] at e0
    subst e0
    simp
    exact q
theorem value_of_bad {d : D} (hn : 5 ≤ n) (hv : tyOk d = true) (hs : ∀ es, d = .tup es → (∀ x ∈ es, tyOk x = true) ∧ es.length ≤ 1000000) (hr : isRow ds ps d = false) : CC P n 509 [schD r ds ps, d] h Q X = X 104 [d] h := by
  rw [CC_eq (fn := fn_Scheme_value_of) (hP.l 509 (by decide)) (by omega) rfl]
  simp [fn_Scheme_value_of, startE, isIn, isEqM, callB, methQ]
  rw [contains_eq hP (by omega) hv hs, hr]
  simp [fldsOf, clsE, excTab]
end
end Mp
namespace Mp
open PySem PySem.Spec L2
/-! orders, each one once; more helpers of the laws: made, value, is_row, row -/
theorem nodup_len {α : Type} [DecidableEq α] : ∀ {l m : List α}, l.Nodup → (∀ x ∈ l, x ∈ m) → l.length ≤ m.length
  | [], _, _, _ => Nat.zero_le _
  | x :: l, m, nd, h => by
    rw [List.nodup_cons] at nd
    have h1 := h x (by simp)
    have := nodup_len (m := m.erase x) nd.2 fun y hy => (List.mem_erase_of_ne (by rintro rfl; exact nd.1 hy)).mpr (h y (List.mem_cons_of_mem _ hy))
    rw [List.length_erase_of_mem h1] at this
    have := List.length_pos_of_mem h1
    simp
    omega
theorem mem_ordI {x : Int} {l : List Int} : x ∈ ordI l ↔ x ∈ l := by
  unfold ordI
  rw [(sortI_perm _).mem_iff, mem_onceL]
theorem mem_ordP {x : Int × Int} {l : List (Int × Int)} : x ∈ ordP l ↔ x ∈ l := by
  unfold ordP
  rw [(sortP_perm _).mem_iff, mem_onceL]
theorem ordI_nodup (l : List Int) : (ordI l).Nodup := (sortI_perm _).nodup_iff.mpr (nodup_onceL l)
theorem ordP_nodup (l : List (Int × Int)) : (ordP l).Nodup := (sortP_perm _).nodup_iff.mpr (nodup_onceL l)
theorem ordI_ext {a b : List Int} (h : ∀ x, x ∈ a ↔ x ∈ b) : ordI a = ordI b :=
  sortI_one (onceL_perm (ordI_nodup a) fun x => by rw [mem_ordI]; exact h x) (sortI_pw _)
theorem ordP_ext {a b : List (Int × Int)} (h : ∀ x, x ∈ a ↔ x ∈ b) : ordP a = ordP b :=
  sortP_one (onceL_perm (ordP_nodup a) fun x => by rw [mem_ordP]; exact h x) (sortP_pw _)
theorem ordI_ord (l : List Int) : ordI (ordI l) = ordI l := ordI_ext fun x => mem_ordI
theorem ordI_len (l : List Int) : (ordI l).length ≤ l.length := nodup_len (ordI_nodup l) fun x hx => mem_ordI.mp hx
theorem ordI_nil : ordI [] = [] := rfl
theorem ordP_nil : ordP [] = [] := rfl
theorem ordI_pw (l : List Int) : (ordI l).Pairwise (· < ·) :=
  List.Pairwise.imp (fun {a b} h => Int.lt_iff_le_and_ne.mpr h) ((sortI_pw _).and (ordI_nodup l))
theorem map_inv {α : Type} {f : α → D} {g : D → α} (hg : ∀ a, g (f a) = a) {es : List D} {l : List α} (p : es.Perm (l.map f)) : ∃ l' : List α, es = l'.map f ∧ l'.Perm l := by
  refine ⟨es.map g, ?_, ?_⟩
  · rw [List.map_map]
    conv => lhs; rw [← List.map_id es]
    refine List.map_congr_left fun x hx => ?_
    obtain ⟨a, _, rfl⟩ := List.mem_map.mp (p.mem_iff.mp hx)
    simp [hg]
  · have := p.map g
    rw [List.map_map] at this
    have e : l.map (g ∘ f) = l := by
      conv => rhs; rw [← List.map_id l]
      exact List.map_congr_left fun x _ => by simp [hg]
    rw [e] at this
    exact this
/-- one of 0 .. 6 is not among six -/
theorem lacks7 {ds : List Int} (h : ds.length ≤ 6) : ∃ k, ∃ r, ((List.range 7).map fun (k : Nat) => (k : Int)).filter (fun k => decide (k ∉ ds)) = k :: r ∧ k ∉ ds ∧ 0 ≤ k ∧ k ≤ 6 := by
  cases e : ((List.range 7).map fun (k : Nat) => (k : Int)).filter (fun k => decide (k ∉ ds)) with
  | nil =>
    exfalso
    have := nodup_len (l := (List.range 7).map fun (k : Nat) => (k : Int)) (m := ds) (List.pairwise_map.mpr (List.Pairwise.imp (fun {x y} h => by omega) (List.nodup_range (n := 7)))) (fun x hx => by
      rw [List.filter_eq_nil_iff] at e
      have := e x hx
      simpa using this)
    simp at this
    omega
  | cons k r =>
    refine ⟨k, r, rfl, ?_⟩
    have : k ∈ ((List.range 7).map fun (k : Nat) => (k : Int)).filter (fun k => decide (k ∉ ds)) := by rw [e]; simp
    rw [List.mem_filter] at this
    obtain ⟨h1, h2⟩ := this
    simp at h1 h2
    exact ⟨h2, by omega, by omega⟩
theorem fm_filter {α : Type} {enc : α → D} {l : List α} {g : D → List D} {p : α → Bool} (h : ∀ x ∈ l, g (enc x) = if p x then [enc x] else []) : (l.map enc).flatMap g = (l.filter p).map enc := by
  induction l with
  | nil => rfl
  | cons x l ih =>
    rw [List.map_cons, List.flatMap_cons, h x (by simp), ih fun y hy => h y (by simp [hy]), List.filter_cons]
    split <;> simp
theorem prodP_sorted {ds : List Int} (h : ds.Pairwise (· < ·)) : (prodP ds).Pairwise (fun p q => leP p q = true ∧ p ≠ q) := by
  have key : ∀ l : List Int, l.Pairwise (· < ·) → (l.flatMap fun a => ds.map fun b => (a, b)).Pairwise (fun p q : Int × Int => leP p q = true ∧ p ≠ q) := fun l hl => by
    induction l with
    | nil => simp
    | cons a l ih =>
      rw [List.pairwise_cons] at hl
      rw [List.flatMap_cons, List.pairwise_append]
      refine ⟨?_, ih hl.2, ?_⟩
      · refine List.pairwise_map.mpr (List.Pairwise.imp ?_ h)
        intro x y hxy
        refine ⟨by simp [leP]; omega, fun e => ?_⟩
        simp at e
        omega
      · intro p hp q hq
        obtain ⟨x, _, rfl⟩ := List.mem_map.mp hp
        obtain ⟨b, hb, hq⟩ := List.mem_flatMap.mp hq
        obtain ⟨y, _, rfl⟩ := List.mem_map.mp hq
        have := hl.1 b hb
        refine ⟨by simp [leP]; omega, fun e => ?_⟩
        simp at e
        omega
  exact key ds h
theorem SchOk.ordI {r : Int} {ds : List Int} {ps : List (Int × Int)} (s : SchOk r ds ps) : ordI ds = ds :=
  (sortI_one (onceL_perm s.dg.nd fun x => Iff.rfl) (List.Pairwise.imp (fun {a b} h => Int.le_of_lt h) s.inc)).symm
theorem SchOk.ordP {r : Int} {ds : List Int} {ps : List (Int × Int)} (s : SchOk r ds ps) : ordP ps = ps := by
  have h := (prodP_sorted s.inc).sublist s.ps
  exact (sortP_one (onceL_perm (List.Pairwise.imp (fun {a b} h => h.2) h) fun x => Iff.rfl) (List.Pairwise.imp (fun {a b} h => h.1) h)).symm
theorem SchOk.ga {r : Int} {ds : List Int} {ps : List (Int × Int)} (s : SchOk r ds ps) : GA r ds ps :=
  ⟨s.base, s.dg.b, by rw [s.ordI]; exact s.dg.l1, by rw [s.ordI]; exact s.dg.l6, by have := s.dg.l6; omega, by have := s.plen; omega, fun p hp => s.pmem hp⟩
theorem SchOk.rb {r : Int} {ds : List Int} {ps : List (Int × Int)} (s : SchOk r ds ps) : -6 ≤ r ∧ r ≤ 6 ∧ (1 < r ∨ r < -1) := by have := s.base; simpa [isBase, and_assoc] using this
/-- a model: base, digits, bars -/
def mdD (r : Int) (ds : List Int) (ps : List (Int × Int)) : D := .lst [.int r, .lst (ds.map D.int), .lst (ps.map prD)]
def fnMade : Fn := ⟨1, 1, [.ret (.make 0 true 500 [.op .item [.brw 0, .con (.int 0)], .op .item [.brw 0, .con (.int 1)], .op .item [.brw 0, .con (.int 2)]] [.inl 0, .inl 1, .inl 2, .inl 3])], false⟩
def fnValue : Fn := ⟨2, 4, [.asg (.nm 2) (.con (.int 0)),
    .for_ .seq [.var 1] (.nm 3) [.asg (.nm 2) (.op .add [.op .mul [.brw 2, .brw 0], .brw 3])],
    .ret (.var 2)], false⟩
def fnIsRow : Fn := ⟨2, 4, [.ite (.tb (.op .neL [.lc .seq [.var 1] (.nm 2) [.tb (.op .notIn [.brw 2, .op .item [.brw 0, .con (.int 1)]])] (.var 2) [2], .lst []])) [.ret (.con (.bl false))] [],
    .ret (.op .eqL [.lc .range2 [.con (.int 1), .op .len [.brw 1]] (.nm 3) [.tb (.op .in_ [.tup [.op .item [.brw 1, .op .sub [.brw 3, .con (.int 1)]], .op .item [.brw 1, .brw 3]], .op .item [.brw 0, .con (.int 2)]])] (.var 3) [3], .lst []])], false⟩
def fnRow (t : Nat) : Fn := ⟨3, 7, [.asgO 4 (.lst []),
    .for_ .range1 [.var 2] (.nm 5) [.asg (.nm 6) (.lc .seq [.op .item [.brw 1, .con (.int 1)]] (.nm 3) [.tOr (.tb (.op .eqL [.brw 4, .lst []])) (.tb (.op .notIn [.tup [.op .item [.brw 4, .op .neg [.con (.int 1)]], .var 3], .op .item [.brw 1, .con (.int 2)]]))] (.var 3) [3]),
    .ite (.tb (.op .neL [.brw 6, .lst []])) [.app 4 (.op .item [.brw 6, .call t [.var 0, .op .len [.brw 6]] [.inl 0, .inl 1]])] []],
    .ret (.op .toTuple [.brw 4])], false⟩
theorem at0 {a : D} {l : List D} : atI (a :: l) 0 = some a := by unfold atI ixN; simp
theorem at1 {a b : D} {l : List D} : atI (a :: b :: l) 1 = some b := by
  unfold atI ixN
  rw [if_pos (by decide), if_pos (by simp; omega)]
  rfl
theorem at2 {a b c : D} {l : List D} : atI (a :: b :: c :: l) 2 = some c := by
  unfold atI ixN
  rw [if_pos (by decide), if_pos (by simp; omega)]
  rfl
theorem itD_range2 {a b : Int} (h0 : -16777216 < a) (h1 : a < 16777216) (h2 : -16777216 < b) (h3 : b < 16777216) : itD .range2 [.int a, .int b] = some ((List.range (b - a).toNat).map fun (k : Nat) => D.int (a + k)) := if_pos ⟨h0, h1, h2, h3⟩
theorem cLI (n : Nat) (l : List Int) : cellsLt n (.lst (l.map D.int)) = true := cellsLts_ints n l
theorem cTI (n : Nat) (l : List Int) : cellsLt n (.tup (l.map D.int)) = true := cellsLts_ints n l
theorem cLP (n : Nat) (l : List (Int × Int)) : cellsLt n (.lst (l.map prD)) = true := cellsLts_prs n l
theorem cTP (n : Nat) (l : List (Int × Int)) : cellsLt n (.tup (l.map prD)) = true := cellsLts_prs n l
theorem atI_ints {xs : List Int} {k : Int} (h0 : 0 ≤ k) (h1 : k < xs.length) : atI (xs.map D.int) k = some (.int (xs[k.toNat]'(by omega))) := by
  obtain ⟨j, rfl⟩ := Int.eq_ofNat_of_zero_le h0
  have hj : j < xs.length := by omega
  unfold atI ixN
  simp [hj]
section
variable {P : Nat → Option Fn} {n f : Nat} {h : List CO} {Q : D → List CO → Prop} {X : Nat → List D → List CO → Prop} {r : Int} {ds : List Int} {ps : List (Int × Int)}
theorem made_eq (hP : HL P) (hf : P f = some fnMade) (hn : 6 ≤ n) (s : SchOk r ds ps) : CC P n f [mdD r ds ps] h Q X = Q (schD r ds ps) h := by
  rw [CC_eq hf (by omega) rfl]
  simp [fnMade, startE, mdD, at0, at1, at2]
  rw [make_good hP (by omega) s.ga (.inl rfl) (.inl rfl) (cLI _ _) (cLP _ _), s.ordI, s.ordP]
theorem value_eq {xs : List Int} (hf : P f = some fnValue) (hn : 1 ≤ n) (hb : -100 ≤ r ∧ r ≤ 100) (hl : xs.length ≤ 1000000) : CC P n f [.int r, .tup (xs.map D.int)] h Q X = Q (.int (valI r xs)) h := by
  refine CC_det (fun Q X q => ?_) Q X
  have sz : sizeLine = 16777216 := sizeLine_eq
  refine CC_of hf (by omega) rfl ?_
  simp [fnValue, startE, show xs.length ≤ sizeLine by omega]
  refine forB_list (CC_mono _) (fun ys st => ∃ (a b : List Int) (v : Sl), xs = a ++ b ∧ ys = b.map D.int ∧ st = ⟨[.shr (.int r), .shr (.tup (xs.map D.int)), .shr (.int (valI r a)), v], h⟩) ⟨[], xs, _, rfl, rfl, rfl⟩ ?_ ?_
  · rintro x ys _ ⟨a, b, v, e0, e, rfl⟩
    cases b with
    | nil => simp at e
    | cons i b =>
      simp at e
      obtain ⟨rfl, rfl⟩ := e
      have cm : CMul (valI r a) r := .inr ⟨by omega, by omega⟩
      simp [cm]
      refine Rch_of ⟨a ++ [i], b, .shr (.int i), by simp [e0], rfl, ?_⟩
      simp [valI]
  · rintro _ ⟨a, b, v, e0, e, rfl⟩
    have : b = [] := by simpa using e
    subst this
    rw [List.append_nil] at e0
    subst e0
    simp
    exact q
/-- neighbours, by places -/
theorem freeL_iff {xs : List Int} : freeL ps xs = true ↔ ∀ k (h1 : k + 1 < xs.length), (xs[k], xs[k + 1]) ∉ ps := by
  unfold freeL
  rw [List.all_eq_true]
  constructor
  · intro z k h1
    have hz : k < (xs.zip xs.tail).length := by simp; omega
    have := z _ (List.getElem_mem hz)
    simpa using this
  · intro z p hp
    obtain ⟨k, hk, rfl⟩ := List.getElem_of_mem hp
    simp at hk
    have := z k (by omega)
    simpa using this
/-- the neighbours at k -/
def nb (xs : List Int) (k : Int) : Int × Int := (xs.getD (k - 1).toNat 0, xs.getD k.toNat 0)
theorem is_row_eq {xs : List Int} (hf : P f = some fnIsRow) (hn : 1 ≤ n) (hl : xs.length ≤ 1000000) : CC P n f [mdD r ds ps, .tup (xs.map D.int)] h Q X = Q (.bl (xs.all (fun x => ds.contains x) && freeL ps xs)) h := by
  have sz : sizeLine = 16777216 := sizeLine_eq
  rw [CC_eq hf (by omega) rfl]
  generalize hB : (xs.all (fun x => ds.contains x) && freeL ps xs) = B
  simp [fnIsRow, startE, show xs.length ≤ sizeLine by omega]
  rw [lcB_pure (fun x => if (ds.map D.int).any (fun z => eqD z x) = true then [] else [x]) ?lm]
  case lm =>
    intro x hx R
    obtain ⟨i, hi, rfl⟩ := List.mem_map.mp hx
    have e1 := any_intD ds i
    by_cases hm : i ∈ ds <;> simp [-List.any_map, mdD, at1, e1, flatD, flat_ints, hm]
  rw [fm_filter (p := fun i => decide (i ∉ ds)) (fun x hx => by rw [any_intD]; by_cases hm : x ∈ ds <;> simp [hm])]
  have e2 : ((xs.filter fun i => decide (i ∉ ds)).map D.int).isEmpty = xs.all (fun x => ds.contains x) := by
    apply Bool.eq_iff_iff.mpr
    simp [List.filter_eq_nil_iff]
  generalize (xs.filter fun i => decide (i ∉ ds)).map D.int = L at e2
  simp only [z_Anil]
  cases ha : xs.all (fun x => ds.contains x) with
  | false =>
    rw [ha] at e2 hB
    rw [Bool.false_and] at hB
    subst hB
    have e3 : ¬ L = [] := by simpa using e2
    simp [e2, e3]
  | true =>
    rw [ha] at e2 hB
    rw [Bool.true_and] at hB
    have e3 : L = [] := by simpa using e2
    subst e3
    simp [itD_range2 (a := 1) (b := xs.length) (by omega) (by omega) (by omega) (by omega)]
    rw [and_iff_right (by omega)]
    rw [lcB_pure (fun x => if decide (nb xs (intD x) ∈ ps) = true then [x] else []) ?lm]
    case lm =>
      intro x hx R
      obtain ⟨k, hk, rfl⟩ := List.mem_map.mp hx
      simp at hk
      have t1 : ((1 : Int) + (k : Int) - 1).toNat = k := by omega
      have t2 : ((1 : Int) + (k : Int)).toNat = k + 1 := by omega
      have a1 : atI (xs.map D.int) ((1 : Int) + (k : Int) - 1) = some (.int (nb xs (1 + k)).1) := by
        rw [atI_ints (by omega) (by omega)]
        simp only [nb, t1]
        simp [List.getD, show k < xs.length by omega]
      have a2 : atI (xs.map D.int) ((1 : Int) + (k : Int)) = some (.int (nb xs (1 + k)).2) := by
        rw [atI_ints (by omega) (by omega)]
        simp only [nb, t2]
        simp [List.getD, show k + 1 < xs.length by omega]
      have e1 : (ps.map prD).any (fun z => eqD z (.tup [.int (nb xs (1 + k)).1, .int (nb xs (1 + k)).2])) = decide (nb xs (1 + k) ∈ ps) := any_prD ps (nb xs (1 + k))
      by_cases hm : nb xs (1 + k) ∈ ps <;> simp [-List.any_map, a1, a2, mdD, at2, intD, flatD, flatDs, flat_prs, e1, hm]
    simp only [z_Anil]
    have em : ((List.range (xs.length - 1)).map fun (k : Nat) => D.int (1 + k)) = ((List.range (xs.length - 1)).map fun (k : Nat) => 1 + (k : Int)).map D.int := by rw [List.map_map]; rfl
    rw [em, fm_filter (p := fun i => decide (nb xs i ∈ ps)) (fun x hx => by by_cases hm : nb xs x ∈ ps <;> simp [intD, hm])]
    have e5 : ((((List.range (xs.length - 1)).map fun (k : Nat) => 1 + (k : Int)).filter fun i => decide (nb xs i ∈ ps)).map D.int).isEmpty = freeL ps xs := by
      apply Bool.eq_iff_iff.mpr
      rw [freeL_iff]
      simp only [List.isEmpty_map, List.isEmpty_iff, List.filter_eq_nil_iff, List.mem_map, List.mem_range]
      have e6 : ∀ k, k + 1 < xs.length → nb xs (1 + (k : Int)) = (xs.getD k 0, xs.getD (k + 1) 0) := fun k hk => by
        unfold nb
        rw [show ((1 : Int) + (k : Int) - 1).toNat = k by omega, show ((1 : Int) + (k : Int)).toNat = k + 1 by omega]
      constructor
      · intro z k hk
        have := z (1 + (k : Int)) ⟨k, by omega, rfl⟩
        rw [e6 k hk] at this
        simpa [List.getD, hk, show k < xs.length by omega] using this
      · rintro z _ ⟨k, hk, rfl⟩
        have := z k (by omega)
        rw [e6 k (by omega)]
        simpa [List.getD, show k + 1 < xs.length by omega, show k < xs.length by omega] using this
    generalize (((List.range (xs.length - 1)).map fun (k : Nat) => 1 + (k : Int)).filter fun i => decide (nb xs i ∈ ps)).map D.int = M at e5
    simp
    rw [e5, hB]
def lastI (xs : List Int) : Int := xs.getLastD 0
theorem lastI_app (as : List Int) (z : Int) : lastI (as ++ [z]) = z := by simp [lastI]
/-- a row goes on -/
theorem freeL_app {xs : List Int} {z : Int} (h : freeL ps xs = true) (hz : xs = [] ∨ (lastI xs, z) ∉ ps) : freeL ps (xs ++ [z]) = true := by
  rw [freeL_iff] at h ⊢
  intro k hk
  simp at hk
  by_cases h1 : k + 1 < xs.length
  · have := h k h1
    simpa [List.getElem_append_left, h1, show k < xs.length by omega] using this
  · rcases hz with rfl | hz
    · simp at hk
    · have e : k + 1 = xs.length := by omega
      have e2 : lastI xs = xs[k]'(by omega) := by
        unfold lastI
        rw [List.getLastD_eq_getLast?, List.getLast?_eq_getElem?]
        simp [show xs.length - 1 = k by omega, show k < xs.length by omega]
      rw [e2] at hz
      simpa [List.getElem_append_left, List.getElem_append_right, e, show k < xs.length by omega] using hz
/-- a row that is drawn -/
theorem row_ok {t l K : Nat} {m : Int} (hf : P f = some (fnRow t)) (tk : TakeP P t 1) (hn : 2 ≤ n) (hd : ds.length ≤ 1000) (hp : ps.length ≤ 1000) (h0 : 0 ≤ m) (h1 : m ≤ 10000) (hx : Bx K h l) (hK : 10000 ≤ K)
    (q : ∀ xs h', (∀ x ∈ xs, x ∈ ds) → (xs.length : Int) ≤ m → freeL ps xs = true → Bx (K - 10000) h' l → Ot l h h' → Q (.tup (xs.map D.int)) h') : CC P n f [.cell l, mdD r ds ps, .int m] h Q X := by
  refine CC_of hf (by omega) rfl ?_
  have sz : sizeLine = 16777216 := sizeLine_eq
  have mC : MonC (CC P (n - 1)) := CC_mono _
  simp [fnRow, startE, itD_range1 (n := m) (by omega) (by omega)]
  refine ⟨by omega, ?_⟩
  refine forB_ok mC (fun i st => ∃ (xs : List Int) (g : List CO) (v w : Sl), (∀ x ∈ xs, x ∈ ds) ∧ xs.length ≤ i ∧ freeL ps xs = true ∧ Bx (K - i) g l ∧ Ot l h g ∧ st = ⟨[.shr (.cell l), .shr (mdD r ds ps), .shr (.int m), .un, .own (.lst (xs.map D.int)), v, w], g⟩) ⟨[], h, _, _, by simp, by simp, rfl, hx, Ot.refl, rfl⟩ ?_ ?_
  · rintro i x _ hi ⟨xs, g, v, w, h2, h3, h4, bx, ot, rfl⟩
    have hi2 : i < m.toNat := by simpa using lt_of_get hi
    simp [mdD, at1, show ds.length ≤ sizeLine by omega]
    rw [lcB_pure (fun y => if (xs.isEmpty || decide ((lastI xs, intD y) ∉ ps)) = true then [y] else []) ?lm]
    case lm =>
      intro y hy R
      obtain ⟨d, hd, rfl⟩ := List.mem_map.mp hy
      rcases List.eq_nil_or_concat xs with rfl | ⟨as, z, ea⟩
      · simp
      · rw [List.concat_eq_append] at ea
        subst ea
        have e1 : atI ((as ++ [z]).map D.int) (-1) = some (.int z) := by
          unfold atI ixN
          rw [if_neg (by decide), if_pos (by simp; omega)]
          have : (-1 + (((as ++ [z]).map D.int).length : Int)).toNat = as.length := by simp; omega
          rw [this]
          simp
        have e2 : (ps.map prD).any (fun y => eqD y (.tup [.int z, .int d])) = decide ((z, d) ∈ ps) := any_prD ps (z, d)
        have e3 : lastI (as ++ [z]) = z := lastI_app as z
        have e4 : (as ++ [z]).isEmpty = false := by simp
        generalize as ++ [z] = xs at *
        have e4' : ¬ xs = [] := by simpa using e4
        by_cases hm : (z, d) ∈ ps <;> simp [-List.any_map, e1, e2, e3, e4, e4', at2, intD, flatD, flatDs, flat_prs, hm]
    rw [fm_filter (p := fun d => xs.isEmpty || decide ((lastI xs, d) ∉ ps)) (fun y hy => by first | rfl | (by_cases h1 : xs.isEmpty = true <;> by_cases h2 : (lastI xs, y) ∈ ps <;> simp [intD, h1, h2]))]
    simp only [z_Anil]
    obtain ⟨S, hS, hSl, hSm⟩ : ∃ S, ds.filter (fun d => xs.isEmpty || decide ((lastI xs, d) ∉ ps)) = S ∧ S.length ≤ 1000 ∧ ∀ d ∈ S, d ∈ ds ∧ (xs = [] ∨ (lastI xs, d) ∉ ps) := ⟨_, rfl, by have := List.length_filter_le (fun d => xs.isEmpty || decide ((lastI xs, d) ∉ ps)) ds; omega, fun d hd => by
      rw [List.mem_filter] at hd
      refine ⟨hd.1, ?_⟩
      have := hd.2
      simp at this
      exact this⟩
    rw [hS]
    by_cases hS0 : S = []
    · subst hS0
      simp
      exact Rch_of ⟨xs, g, _, _, h2, by omega, h4, bx.mono (by omega), ot, rfl⟩
    · have hS1 : S.isEmpty = false := by simpa using hS0
      have hS2 : 0 < S.length := List.length_pos_iff.mpr hS0
      simp [hS0, hS1]
      refine TakeP.use (by assumption) (by assumption) (by omega) (by first | decide | omega) (by first | decide | omega) (by omega) fun c g2 c0 c1 bx2 ot2 => ?_
      have e1 := atI_ints (xs := S) (k := c) c0 c1
      have hm := hSm _ (List.getElem_mem (show c.toNat < S.length by omega))
      generalize S[c.toNat]'(by omega) = z at *
      simp [e1]
      refine ⟨by omega, Rch_of ⟨xs ++ [z], g2, _, _, fun y hy => ?_, by simp; omega, freeL_app h4 hm.2, bx2.mono (by omega), ot.trans ot2, by simp [mdD]; exact ⟨rfl, rfl⟩⟩⟩
      rcases List.mem_append.mp hy with z1 | z1
      · exact h2 y z1
      · simp at z1; subst z1; exact hm.1
  · rintro _ ⟨xs, g, v, w, h2, h3, h4, bx, ot, rfl⟩
    simp at h3
    simp
    exact q xs g h2 (by omega) h4 (bx.mono (by simp; omega)) ot
end
end Mp
namespace Mp.K07
open PySem PySem.Spec PyProof.Rows L2
def top (i : Nat) : Stmt := PySem.Challenge.pw_oddfigures_k07_rows_judged.main.body.getD i (.Pass ⟨0, 0, 0, 0⟩)
def inC (i j : Nat) : Stmt := (clsBd (top i)).getD j (.Pass ⟨0, 0, 0, 0⟩)
def fn_law_cell : Fn := ⟨2, 2, [.ite (.tb (.op .lt [.brw 1, .op .len [.brw 0]])) [.ret (.op .item [.brw 0, .brw 1])] [],
    .ret (.op .add [.op .mul [.con (.int 250110119), .brw 1], .con (.int 8861)])], false⟩
def fn_law_box : Fn := ⟨1, 1, [.ret (.cel (.lst [.op .max2 [.con (.int 0), .op .sub [.brw 0, .op .pow [.con (.int 10), .con (.int 18)]]], .op .mod [.op .toInt [.brw 0], .con (.int 2147483629)], .con (.int 0)]))], false⟩
def fn_law_take : Fn := ⟨2, 4, [.ite (.tb (.op .gt [.op .item [.brw 0, .con (.int 0)], .con (.int 0)])) [.asg (.nm 2) (.op .mod [.op .toInt [.op .item [.brw 0, .con (.int 0)]], .brw 1]),
    .setI 0 (.con (.int 0)) (.op .fdiv [.op .item [.brw 0, .con (.int 0)], .brw 1]),
    .ret (.var 2)] [],
    .setI 0 (.con (.int 2)) (.op .add [.op .item [.brw 0, .con (.int 2)], .con (.int 1)]),
    .asg (.nm 3) (.op .mod [.op .pow [.op .toInt [.op .add [.op .add [.op .item [.brw 0, .con (.int 1)], .op .mul [.con (.int 6421), .op .item [.brw 0, .con (.int 2)]]], .con (.int 292)]], .con (.int 5)], .con (.int 2147483647)]),
    .asg (.nm 3) (.op .mod [.op .pow [.op .toInt [.op .add [.brw 3, .op .mul [.con (.int 30671), .op .item [.brw 0, .con (.int 2)]]]], .con (.int 3)], .con (.int 2147483587)]),
    .ret (.op .mod [.op .toInt [.op .fdiv [.brw 3, .con (.int 16)]], .brw 1])], false⟩
def fn_law_mixed : Fn := ⟨2, 4, [.asgO 3 (.op .toList [.brw 1]),
    .ret (.lc .range1 [.op .len [.brw 1]] (.nm 2) [] (.pop 3 (.call 1002 [.var 0, .op .len [.brw 3]] [.inl 0, .inl 1])) [2])], false⟩
def fn_law_digits : Fn := ⟨2, 9, [.par [4, 5] [.call 1002 [.var 0, .con (.int 4)] [.inl 0, .inl 1], .op .add [.con (.int 1), .call 1002 [.var 0, .con (.int 6)] [.inl 0, .inl 1]]],
    .ite (.tb (.op .eq [.brw 4, .con (.int 0)])) [.asg (.nm 6) (.op .sub [.call 1002 [.var 0, .con (.int 4)] [.inl 0, .inl 1], .con (.int 3)]),
    .ret (.op .rng2 [.brw 6, .op .add [.brw 6, .brw 5]])] [],
    .ite (.tb (.op .eq [.brw 4, .con (.int 1)])) [.asg (.nm 7) (.lc .range1 [.op .abs [.brw 1]] (.nm 2) [] (.op .add [.brw 2, .op .mul [.op .abs [.brw 1], .op .sub [.call 1002 [.var 0, .con (.int 3)] [.inl 0, .inl 1], .con (.int 1)]]]) [2]),
    .ret (.lc .seq [.var 7] (.nm 3) [] (.op .sub [.brw 3, .op .mul [.op .abs [.brw 1], .op .toInt [.op .gt [.brw 3, .con (.int 9)]]]]) [3])] [],
    .asgO 8 (.op .rng2 [.op .neg [.con (.int 9)], .con (.int 10)]),
    .ret (.lc .range1 [.var 5] (.nm 2) [] (.pop 8 (.call 1002 [.var 0, .op .len [.brw 8]] [.inl 0, .inl 1])) [2])], false⟩
def fn_law_pairs : Fn := ⟨1, 4, [.asg (.nm 2) (.lst []),
    .for_ .seq [.var 0] (.nm 3) [.asg (.nm 2) (.op .add [.brw 2, .lc .seq [.var 0] (.nm 1) [] (.tup [.var 3, .var 1]) [1]])],
    .ret (.var 2)], false⟩
def fn_law_scheme : Fn := ⟨1, 6, [.asg (.nm 2) (.op .item [.lst [.con (.int 2), .op .neg [.con (.int 2)], .con (.int 3), .op .neg [.con (.int 3)], .con (.int 2), .op .neg [.con (.int 4)], .con (.int 4), .con (.int 5), .op .neg [.con (.int 5)], .con (.int 6), .op .neg [.con (.int 6)]], .call 1002 [.var 0, .con (.int 11)] [.inl 0, .inl 1]]),
    .par [3, 4] [.op .sorted [.call 1004 [.var 0, .var 2] [.inl 0, .inl 1]], .call 1002 [.var 0, .con (.int 4)] [.inl 0, .inl 1]],
    .asg (.nm 5) (.call 1005 [.var 3] [.inl 0]),
    .ite (.tb (.op .eq [.brw 4, .con (.int 0)])) [.ret (.lst [.var 2, .var 3, .lst []])] [],
    .ite (.tb (.op .eq [.brw 4, .con (.int 1)])) [.ret (.lst [.var 2, .var 3, .lc .seq [.var 5] (.nm 1) [.tAnd (.tb (.op .ne [.op .item [.brw 1, .con (.int 0)], .con (.int 0)])) (.tb (.op .ne [.op .item [.brw 1, .con (.int 1)], .con (.int 0)]))] (.var 1) [1]])] [],
    .ite (.tb (.op .eq [.brw 4, .con (.int 2)])) [.ret (.lst [.var 2, .var 3, .lc .seq [.var 5] (.nm 1) [.tb (.op .eq [.op .item [.brw 1, .con (.int 0)], .op .item [.brw 1, .con (.int 1)]])] (.var 1) [1]])] [],
    .ret (.lst [.var 2, .var 3, .lc .seq [.var 5] (.nm 1) [.tb (.op .eq [.call 1002 [.var 0, .con (.int 4)] [.inl 0, .inl 1], .con (.int 0)])] (.var 1) [1]])], false⟩
def fn_law_made : Fn := ⟨1, 1, [.ret (.make 0 true 500 [.op .item [.brw 0, .con (.int 0)], .op .item [.brw 0, .con (.int 1)], .op .item [.brw 0, .con (.int 2)]] [.inl 0, .inl 1, .inl 2, .inl 3])], false⟩
def fn_law_is_row : Fn := ⟨2, 4, [.ite (.tb (.op .neL [.lc .seq [.var 1] (.nm 2) [.tb (.op .notIn [.brw 2, .op .item [.brw 0, .con (.int 1)]])] (.var 2) [2], .lst []])) [.ret (.con (.bl false))] [],
    .ret (.op .eqL [.lc .range2 [.con (.int 1), .op .len [.brw 1]] (.nm 3) [.tb (.op .in_ [.tup [.op .item [.brw 1, .op .sub [.brw 3, .con (.int 1)]], .op .item [.brw 1, .brw 3]], .op .item [.brw 0, .con (.int 2)]])] (.var 3) [3], .lst []])], false⟩
def fn_law_value : Fn := ⟨2, 4, [.asg (.nm 2) (.con (.int 0)),
    .for_ .seq [.var 1] (.nm 3) [.asg (.nm 2) (.op .add [.op .mul [.brw 2, .brw 0], .brw 3])],
    .ret (.var 2)], false⟩
def fn_law_row : Fn := ⟨3, 7, [.asgO 4 (.lst []),
    .for_ .range1 [.var 2] (.nm 5) [.asg (.nm 6) (.lc .seq [.op .item [.brw 1, .con (.int 1)]] (.nm 3) [.tOr (.tb (.op .eqL [.brw 4, .lst []])) (.tb (.op .notIn [.tup [.op .item [.brw 4, .op .neg [.con (.int 1)]], .var 3], .op .item [.brw 1, .con (.int 2)]]))] (.var 3) [3]),
    .ite (.tb (.op .neL [.brw 6, .lst []])) [.app 4 (.op .item [.brw 6, .call 1002 [.var 0, .op .len [.brw 6]] [.inl 0, .inl 1]])] []],
    .ret (.op .toTuple [.brw 4])], false⟩
def fn_law_told : Fn := ⟨2, 3, [.tryA [.ret (.lst [.con (.str "value"), .meth .dot 0 509 [.var 0, .var 1] [.inl 0, .inl 1]])] [(104, 2)] [[.ret (.lst [.con (.str "row"), .xfl 2 "row", .xis 2 100])]]], false⟩
def fn_law_odd_row : Fn := ⟨2, 5, [.par [2, 3] [.call 1002 [.var 0, .con (.int 6)] [.inl 0, .inl 1], .call 1002 [.var 0, .op .add [.op .len [.brw 1], .con (.int 1)]] [.inl 0, .inl 1]],
    .asg (.nm 4) (.op .sub [.call 1002 [.var 0, .con (.int 19)] [.inl 0, .inl 1], .con (.int 9)]),
    .ite (.tb (.op .eq [.brw 2, .con (.int 0)])) [.ret (.op .add [.op .add [.op (.sl false true) [.brw 1, .brw 3], .tup [.var 4]], .op (.sl true false) [.brw 1, .brw 3]])] [],
    .ite (.tAnd (.tb (.op .eq [.brw 2, .con (.int 1)])) (.tb (.op .lt [.brw 3, .op .len [.brw 1]]))) [.ret (.op .add [.op .add [.op (.sl false true) [.brw 1, .brw 3], .tup [.var 4]], .op (.sl true false) [.brw 1, .op .add [.brw 3, .con (.int 1)]]])] [],
    .ite (.tb (.op .eq [.brw 2, .con (.int 2)])) [.ret (.op .add [.op (.sl false true) [.brw 1, .brw 3], .op (.sl true false) [.brw 1, .op .max2 [.con (.int 0), .op .sub [.brw 3, .con (.int 1)]]]])] [],
    .ite (.tb (.op .eq [.brw 2, .con (.int 3)])) [.ret (.op .rev [.brw 1])] [],
    .ret (.var 1)], false⟩
def fn_law_judged : Fn := ⟨3, 4, [.asg (.nm 3) (.call 1008 [.var 0, .var 2] [.inl 0, .inl 1]),
    .ite (.tb (.op .ne [.op .repr [.meth .in_ 0 508 [.var 2, .var 1] [.inl 1, .inl 0]], .op .repr [.brw 3]])) [.ret (.con (.bl false))] [],
    .ret (.op .eq [.call 1011 [.var 1, .var 2] [.inl 0, .inl 1], .ite (.tru (.var 3)) (.lst [.con (.str "value"), .call 1009 [.op .item [.brw 0, .con (.int 0)], .var 2] [.inl 0, .inl 1]]) (.lst [.con (.str "row"), .var 2, .con (.bl true)])])], false⟩
def fn_law_right : Fn := ⟨1, 15, [.asg (.nm 2) (.lst [.call 1006 [.var 0] [.inl 0], .call 1006 [.var 0] [.inl 0]]),
    .asg (.nm 3) (.lc .seq [.var 2] (.nm 1) [] (.call 1007 [.var 1] [.inl 0]) [1]),
    .asg (.nm 4) (.op .item [.lst [.call 1002 [.var 0, .con (.int 10)] [.inl 0, .inl 1], .call 1002 [.var 0, .con (.int 10)] [.inl 0, .inl 1], .con (.int 300)], .op .mul [.op .toInt [.op .gt [.call 1002 [.var 0, .con (.int 9)] [.inl 0, .inl 1], .con (.int 6)]], .con (.int 2)]]),
    .asgO 5 (.lst [.call 1010 [.var 0, .op .item [.brw 2, .con (.int 0)], .var 4] [.inl 0, .inl 1, .inl 2], .call 1010 [.var 0, .op .item [.brw 2, .con (.int 1)], .con (.int 5)] [.inl 0, .inl 1, .inl 2]]),
    .app 5 (.call 1012 [.var 0, .op .item [.brw 5, .con (.int 0)]] [.inl 0, .inl 1]),
    .for_ .seq [.call 1003 [.var 0, .op .add [.brw 5, .lst [.tup []]]] [.inl 0, .inl 1]] (.nm 6) [.for_ .seq [.lst [.con (.int 0), .con (.int 1), .con (.int 0)]] (.nm 7) [.ite (.tNot (.tru (.call 1013 [.op .item [.brw 2, .brw 7], .op .item [.brw 3, .brw 7], .var 6] [.inl 0, .inl 1, .inl 2]))) [.ret (.con (.bl false))] []]],
    .asg (.nm 8) (.op (.sl false true) [.op .item [.brw 5, .con (.int 0)], .con (.int 4)]),
    .asg (.nm 9) (.lst [.con .non, .op .toList [.brw 8], .con (.str "1"), .con (.int 3), .op .add [.brw 8, .tup [.con (.bl true)]], .op .add [.brw 8, .tup [.con .non]], .op .add [.brw 8, .tup [.con (.str "1")]], .op .add [.brw 8, .tup [.tup [.con (.int 1)]]], .con (.bl true), .op .add [.brw 8, .tup [.lst [.con (.int 1)]]]]),
    .for_ .seq [.op .add [.brw 9, .lst [.op .add [.brw 8, .tup [.dct [] []]], .dct [.con (.int 1)] [.con (.int 2)]]]] (.nm 10) [.ite (.tOr (.tb (.op .ne [.op .repr [.meth .in_ 0 508 [.var 10, .op .item [.brw 3, .con (.int 0)]] [.inl 1, .inl 0]], .con (.str "False")])) (.tb (.op .ne [.op .repr [.call 1011 [.op .item [.brw 3, .con (.int 0)], .var 10] [.inl 0, .inl 1]], .op .repr [.lst [.con (.str "row"), .var 10, .con (.bl true)]]]))) [.ret (.con (.bl false))] []],
    .for_ .seq [.op .add [.op .rng2 [.op .neg [.con (.int 10)], .con (.int 11)], .lst [.con .non, .con (.bl true), .con (.str "1")]]] (.nm 11) [.for_ .seq [.op .add [.lst [.con .non, .op .neg [.con (.int 10)], .con (.bl true), .con (.str "0")], .op .rng2 [.op .neg [.con (.int 9)], .con (.int 10)]]] (.nm 12) [.asg (.nm 13) (.andV (.op .in_ [.brw 11, .op .item [.op .item [.brw 2, .con (.int 0)], .con (.int 1)]]) (.notV (.op (.isi [.bool] false) [.brw 11]))),
    .asg (.nm 14) (.orV (.op .isN [.brw 12]) (.andV (.op .in_ [.brw 12, .op .item [.op .item [.brw 2, .con (.int 0)], .con (.int 1)]]) (.notV (.op (.isi [.bool] false) [.brw 12])))),
    .ite (.tb (.op .ne [.op .repr [.meth .dot 0 507 [.op .item [.brw 3, .con (.int 0)], .var 11, .var 12] [.inl 0, .inl 1, .inl 2]], .op .repr [.andV (.var 13) (.andV (.var 14) (.op .notIn [.tup [.var 11, .var 12], .op .item [.op .item [.brw 2, .con (.int 0)], .con (.int 2)]]))]])) [.ret (.con (.bl false))] []]],
    .for_ .seq [.lst [.lst [.con (.int 1)], .dct [.con (.int 1)] [.con (.int 2)], .tup [.con (.int 0)]]] (.nm 10) [.ite (.tOr (.tb (.op .isNF [.meth .dot 0 507 [.op .item [.brw 3, .con (.int 0)], .var 10, .con (.int 0)] [.inl 0, .inl 1, .inl 2]])) (.tb (.op .isNF [.meth .dot 0 507 [.op .item [.brw 3, .con (.int 0)], .op .item [.op .item [.op .item [.brw 2, .con (.int 0)], .con (.int 1)], .con (.int 0)], .var 10] [.inl 0, .inl 1, .inl 2]]))) [.ret (.con (.bl false))] []],
    .ite (.tb (.op .ne [.meth .eq 0 504 [.op .item [.brw 3, .con (.int 0)], .op .item [.brw 3, .con (.int 1)]] [.inl 0, .inl 1], .op .eq [.op .item [.brw 2, .con (.int 0)], .op .item [.brw 2, .con (.int 1)]]])) [.ret (.con (.bl false))] [],
    .ret (.andV (.meth .dot 0 507 [.op .item [.brw 3, .con (.int 0)], .con .non, .op .item [.op .item [.op .item [.brw 2, .con (.int 0)], .con (.int 1)], .con (.int 0)]] [.inl 0, .inl 2, .inl 1]) (.op .eq [.meth .dot 0 509 [.op .item [.brw 3, .con (.int 0)], .tup []] [.inl 0, .inl 1], .con (.int 0)]))], false⟩
def fn_law : Fn := ⟨1, 2, [.for_ .range1 [.op .max2 [.con (.int 2), .op .min2 [.con (.int 14), .op .len [.brw 0]]]] (.nm 1) [.ite (.tNot (.tru (.call 1014 [.call 1001 [.call 1000 [.var 0, .var 1] [.inl 0, .inl 1]] [.inl 0]] [.inl 0]))) [.ret (.con (.bl false))] []],
    .ret (.con (.bl true))], false⟩
def t0 : FT := { x := "is_integer", qual := "is_integer", params := defArgs (top 12), body := defBody (top 12), scope := defScope (top 12), N := ["value", "low", "high"], ps := ["value", "low", "high"], fn := fn_is_integer, wh := .glo "is_integer", dfl := [], kwd := [] }
def t1 : FT := { x := "is_base", qual := "is_base", params := defArgs (top 13), body := defBody (top 13), scope := defScope (top 13), N := ["value"], ps := ["value"], fn := fn_is_base, wh := .glo "is_base", dfl := [], kwd := [] }
def t2 : FT := { x := "is_digit", qual := "is_digit", params := defArgs (top 14), body := defBody (top 14), scope := defScope (top 14), N := ["value"], ps := ["value"], fn := fn_is_digit, wh := .glo "is_digit", dfl := [], kwd := [] }
def t9 : FT := { x := "is_list", qual := "is_list", params := defArgs (top 20), body := defBody (top 20), scope := defScope (top 20), N := ["value"], ps := ["value"], fn := fn_is_list, wh := .glo "is_list", dfl := [], kwd := [] }
def t10 : FT := { x := "different", qual := "different", params := defArgs (top 21), body := defBody (top 21), scope := defScope (top 21), N := ["items"], ps := ["items"], fn := fn_different, wh := .glo "different", dfl := [], kwd := [] }
def t11 : FT := { x := "is_digit_list", qual := "is_digit_list", params := defArgs (top 22), body := defBody (top 22), scope := defScope (top 22), N := ["value", "digits", "least", "item"], ps := ["value", "digits", "least"], fn := fn_is_digit_list, wh := .glo "is_digit_list", dfl := [], kwd := [] }
def t12 : FT := { x := "is_pair", qual := "is_pair", params := defArgs (top 23), body := defBody (top 23), scope := defScope (top 23), N := ["value", "digits", "item"], ps := ["value", "digits"], fn := fn_is_pair, wh := .glo "is_pair", dfl := [], kwd := [] }
def t500 : FT := { x := "__init__", qual := "Scheme.__init__", params := defArgs (inC 24 0), body := defBody (inC 24 0), scope := defScope (inC 24 0), N := ["self", "base", "digits", "bars", "item"], ps := ["self", "base", "digits", "bars"], fn := fn_Scheme___init__, wh := .mth 0 "__init__", dfl := [], kwd := [("bars", (.tup []))] }
def t504 : FT := { x := "__eq__", qual := "Scheme.__eq__", params := defArgs (inC 24 4), body := defBody (inC 24 4), scope := defScope (inC 24 4), N := ["self", "other"], ps := ["self", "other"], fn := fn_Scheme___eq__, wh := .mth 0 "__eq__", dfl := [], kwd := [] }
def t506 : FT := { x := "has", qual := "Scheme.has", params := defArgs (inC 24 6), body := defBody (inC 24 6), scope := defScope (inC 24 6), N := ["self", "value"], ps := ["self", "value"], fn := fn_Scheme_has, wh := .mth 0 "has", dfl := [], kwd := [] }
def t507 : FT := { x := "allows", qual := "Scheme.allows", params := defArgs (inC 24 7), body := defBody (inC 24 7), scope := defScope (inC 24 7), N := ["self", "left", "right"], ps := ["self", "left", "right"], fn := fn_Scheme_allows, wh := .mth 0 "allows", dfl := [], kwd := [] }
def t508 : FT := { x := "__contains__", qual := "Scheme.__contains__", params := defArgs (inC 24 8), body := defBody (inC 24 8), scope := defScope (inC 24 8), N := ["self", "value", "pair", "item"], ps := ["self", "value"], fn := fn_Scheme___contains__, wh := .mth 0 "__contains__", dfl := [], kwd := [] }
def t509 : FT := { x := "value_of", qual := "Scheme.value_of", params := defArgs (inC 24 9), body := defBody (inC 24 9), scope := defScope (inC 24 9), N := ["self", "row", "total", "digit"], ps := ["self", "row"], fn := fn_Scheme_value_of, wh := .mth 0 "value_of", dfl := [], kwd := [] }
def t1000 : FT := { x := "_law_cell", qual := "_law_cell", params := defArgs (top 27), body := defBody (top 27), scope := defScope (top 27), N := ["_law_script", "_law_k"], ps := ["_law_script", "_law_k"], fn := fn_law_cell, wh := .glo "_law_cell", dfl := [], kwd := [] }
def t1001 : FT := { x := "_law_box", qual := "_law_box", params := defArgs (top 28), body := defBody (top 28), scope := defScope (top 28), N := ["_law_cell_here"], ps := ["_law_cell_here"], fn := fn_law_box, wh := .glo "_law_box", dfl := [], kwd := [] }
def t1002 : FT := { x := "_law_take", qual := "_law_take", params := defArgs (top 29), body := defBody (top 29), scope := defScope (top 29), N := ["_law_box_here", "_law_many", "_law_digit", "_law_number"], ps := ["_law_box_here", "_law_many"], fn := fn_law_take, wh := .glo "_law_take", dfl := [], kwd := [] }
def t1003 : FT := { x := "_law_mixed", qual := "_law_mixed", params := defArgs (top 30), body := defBody (top 30), scope := defScope (top 30), N := ["_law_box_here", "_law_some", "_law_k", "_law_ahead"], ps := ["_law_box_here", "_law_some"], fn := fn_law_mixed, wh := .glo "_law_mixed", dfl := [], kwd := [] }
def t1004 : FT := { x := "_law_digits", qual := "_law_digits", params := defArgs (top 31), body := defBody (top 31), scope := defScope (top 31), N := ["_law_box_here", "_law_base", "_law_k", "_law_digit", "_law_way", "_law_many", "_law_first", "_law_some", "_law_pool"], ps := ["_law_box_here", "_law_base"], fn := fn_law_digits, wh := .glo "_law_digits", dfl := [], kwd := [] }
def t1005 : FT := { x := "_law_pairs", qual := "_law_pairs", params := defArgs (top 32), body := defBody (top 32), scope := defScope (top 32), N := ["_law_digits_here", "_law_beside", "_law_found", "_law_ahead"], ps := ["_law_digits_here"], fn := fn_law_pairs, wh := .glo "_law_pairs", dfl := [], kwd := [] }
def t1006 : FT := { x := "_law_scheme", qual := "_law_scheme", params := defArgs (top 33), body := defBody (top 33), scope := defScope (top 33), N := ["_law_box_here", "_law_pair", "_law_base", "_law_digits_here", "_law_way", "_law_pairs_here"], ps := ["_law_box_here"], fn := fn_law_scheme, wh := .glo "_law_scheme", dfl := [], kwd := [] }
def t1007 : FT := { x := "_law_made", qual := "_law_made", params := defArgs (top 34), body := defBody (top 34), scope := defScope (top 34), N := ["_law_model"], ps := ["_law_model"], fn := fn_law_made, wh := .glo "_law_made", dfl := [], kwd := [] }
def t1008 : FT := { x := "_law_is_row", qual := "_law_is_row", params := defArgs (top 35), body := defBody (top 35), scope := defScope (top 35), N := ["_law_model", "_law_line", "_law_digit", "_law_k"], ps := ["_law_model", "_law_line"], fn := fn_law_is_row, wh := .glo "_law_is_row", dfl := [], kwd := [] }
def t1009 : FT := { x := "_law_value", qual := "_law_value", params := defArgs (top 36), body := defBody (top 36), scope := defScope (top 36), N := ["_law_base", "_law_line", "_law_total", "_law_digit"], ps := ["_law_base", "_law_line"], fn := fn_law_value, wh := .glo "_law_value", dfl := [], kwd := [] }
def t1010 : FT := { x := "_law_row", qual := "_law_row", params := defArgs (top 37), body := defBody (top 37), scope := defScope (top 37), N := ["_law_box_here", "_law_model", "_law_many", "_law_digit", "_law_line", "_law_k", "_law_some"], ps := ["_law_box_here", "_law_model", "_law_many"], fn := fn_law_row, wh := .glo "_law_row", dfl := [], kwd := [] }
def t1011 : FT := { x := "_law_told", qual := "_law_told", params := defArgs (top 38), body := defBody (top 38), scope := defScope (top 38), N := ["_law_scheme_here", "_law_line", "e"], ps := ["_law_scheme_here", "_law_line"], fn := fn_law_told, wh := .glo "_law_told", dfl := [], kwd := [] }
def t1012 : FT := { x := "_law_odd_row", qual := "_law_odd_row", params := defArgs (top 39), body := defBody (top 39), scope := defScope (top 39), N := ["_law_box_here", "_law_line", "_law_way", "_law_at", "_law_digit"], ps := ["_law_box_here", "_law_line"], fn := fn_law_odd_row, wh := .glo "_law_odd_row", dfl := [], kwd := [] }
def t1013 : FT := { x := "_law_judged", qual := "_law_judged", params := defArgs (top 40), body := defBody (top 40), scope := defScope (top 40), N := ["_law_model", "_law_scheme_here", "_law_line", "_law_beside"], ps := ["_law_model", "_law_scheme_here", "_law_line"], fn := fn_law_judged, wh := .glo "_law_judged", dfl := [], kwd := [] }
def t1014 : FT := { x := "_law_right", qual := "_law_right", params := defArgs (top 41), body := defBody (top 41), scope := defScope (top 41), N := ["_law_box_here", "_law_model", "_law_models", "_law_schemes", "_law_many", "_law_rows", "_law_line", "_law_k", "_law_one", "_law_some", "_law_odd", "_law_ahead", "_law_beside", "_law_known", "_law_good"], ps := ["_law_box_here"], fn := fn_law_right, wh := .glo "_law_right", dfl := [], kwd := [] }
def t1015 : FT := { x := "law", qual := "law", params := defArgs (top 42), body := defBody (top 42), scope := defScope (top 42), N := ["_law_script", "_law_k"], ps := ["_law_script"], fn := fn_law, wh := .glo "law", dfl := [], kwd := [] }
def T : List (Nat × FT) := [(0, t0), (1, t1), (2, t2), (9, t9), (10, t10), (11, t11), (12, t12), (500, t500), (504, t504), (506, t506), (507, t507), (508, t508), (509, t509), (1000, t1000), (1001, t1001), (1002, t1002), (1003, t1003), (1004, t1004), (1005, t1005), (1006, t1006), (1007, t1007), (1008, t1008), (1009, t1009), (1010, t1010), (1011, t1011), (1012, t1012), (1013, t1013), (1014, t1014), (1015, t1015)]
def glo : List (Str × D) := [("MOST_DIGITS", (.int 6)), ("GREATEST_DIGIT", (.int 9)), ("GREATEST_BASE", (.int 6))]
def sh (i : Nat) : List ShT := match i with
  | 0 => [(3, [], [.inl 0, .inl 1, .inl 2])]
  | 1 => [(1, [], [.inl 0])]
  | 2 => [(1, [], [.inl 0])]
  | 9 => [(1, [], [.inl 0])]
  | 10 => [(1, [], [.inl 0])]
  | 11 => [(3, [], [.inl 0, .inl 1, .inl 2])]
  | 12 => [(2, [], [.inl 0, .inl 1])]
  | 500 => [(3, ["bars"], [.inl 0, .inl 1, .inl 2, .inl 3])]
  | 504 => [(2, [], [.inl 0, .inl 1])]
  | 506 => [(2, [], [.inl 0, .inl 1])]
  | 507 => [(1, ["right", "left"], [.inl 0, .inl 2, .inl 1]), (3, [], [.inl 0, .inl 1, .inl 2])]
  | 508 => [(2, [], [.inl 0, .inl 1])]
  | 509 => [(1, ["row"], [.inl 0, .inl 1]), (2, [], [.inl 0, .inl 1])]
  | 1000 => [(2, [], [.inl 0, .inl 1])]
  | 1001 => [(1, [], [.inl 0])]
  | 1002 => [(2, [], [.inl 0, .inl 1])]
  | 1003 => [(2, [], [.inl 0, .inl 1])]
  | 1004 => [(2, [], [.inl 0, .inl 1])]
  | 1005 => [(1, [], [.inl 0])]
  | 1006 => [(1, [], [.inl 0])]
  | 1007 => [(1, [], [.inl 0])]
  | 1008 => [(2, [], [.inl 0, .inl 1])]
  | 1009 => [(2, [], [.inl 0, .inl 1])]
  | 1010 => [(3, [], [.inl 0, .inl 1, .inl 2])]
  | 1011 => [(2, [], [.inl 0, .inl 1])]
  | 1012 => [(2, [], [.inl 0, .inl 1])]
  | 1013 => [(3, [], [.inl 0, .inl 1, .inl 2])]
  | 1014 => [(1, [], [.inl 0])]
  | 1015 => [(1, [], [.inl 0])]
  | _ => []
def kn : List Nat := [0]
def xn : List Nat := [100, 101, 102, 103, 104, 105]
def mdl : Md := mdOf T sh glo kn xn
theorem hT : T.all (fun p => p.2.ok 60 mdl) = true := by kernel_rfl
def P (f : Nat) : Option Fn := if f < 1000 then Lib f else match f with
  | 1000 => some fn_law_cell
  | 1001 => some fn_law_box
  | 1002 => some fn_law_take
  | 1003 => some fn_law_mixed
  | 1004 => some fn_law_digits
  | 1005 => some fn_law_pairs
  | 1006 => some fn_law_scheme
  | 1007 => some fn_law_made
  | 1008 => some fn_law_is_row
  | 1009 => some fn_law_value
  | 1010 => some fn_law_row
  | 1011 => some fn_law_told
  | 1012 => some fn_law_odd_row
  | 1013 => some fn_law_judged
  | 1014 => some fn_law_right
  | 1015 => some fn_law
  | _ => none
theorem hP : ∀ p ∈ T, P p.1 = some p.2.fn := by
  intro p hp
  simp only [T, List.mem_cons, List.not_mem_nil, or_false] at hp
  rcases hp with rfl | rfl | rfl | rfl | rfl | rfl | rfl | rfl | rfl | rfl | rfl | rfl | rfl | rfl | rfl | rfl | rfl | rfl | rfl | rfl | rfl | rfl | rfl | rfl | rfl | rfl | rfl | rfl | rfl <;> rfl
abbrev R : PySem.W.OpenRow := PySem.W.OpenLaw.row PySem.Challenge.rw_oddfigures_k07_rows_judged
def file : Str := PySem.Challenge.pw_oddfigures_k07_rows_judged.main.file
abbrev hk : PySem.W.Hook := hookM 5 file kn xn glo T
def ob (s : PySem.W.SharedT) : Bool × List He.FnW := obsM 5 file kn xn glo T (HandSHeadRun.getT s)
theorem ob_eq (s : PySem.W.SharedT) : ob s = hk.obs s.abs := obsM_eq (HandSHeadRun.getT_eq s)
theorem htop : (PySem.Challenge.pw_oddfigures_k07_rows_judged.main.scope.names.lookup ("super" : Str)).isSome = false := by kernel_rfl
def names0 : List PySem.Str := ["_wall", "FigureError", "InvalidBase", "InvalidDigits", "InvalidBars", "InvalidRow", "InvalidText", "MOST_DIGITS", "GREATEST_DIGIT", "GREATEST_BASE", "is_integer", "is_base", "is_digit", "are_digits", "row_text", "digit_of", "row_of", "is_list", "different", "is_digit_list", "is_pair", "Scheme", "scheme_of", "_law_cell", "_law_box", "_law_take", "_law_mixed", "_law_digits", "_law_pairs", "_law_scheme"]
def names1 : List PySem.Str := ["_law_made", "_law_is_row", "_law_value", "_law_row", "_law_told", "_law_odd_row", "_law_judged", "_law_right"]
def loose : List PySem.Str := names0 ++ names1
theorem run (w : World) : HandSHeadRun.RunEq R (PySem.W.view R.prog [42]) hk ob 20000 loose w := by
  intro os
  kernel_rfl
theorem sh0 {K : PySem.W.Frag} {f : Addr} {fd : FuncData} {kws : List (Str × V)} (F : FunD K t0.x t0.qual t0.params t0.body t0.scope t0.dvs kws f fd) (kr : KwRel K t0.kwd kws) : ∀ q ∈ sh 0, Shp K fd t0.ps q.1 q.2.1 q.2.2 ∧ q.2.2.length = t0.ps.length := by
  intro q hq
  simp only [sh, List.mem_cons, List.not_mem_nil, or_false] at hq
  rcases hq with rfl
  · exact ⟨shp_of F 3 [] [0, 1, 2] (by decide) (fun _ _ _ _ _ _ us ws h1 h2 => match us, ws, h1, h2 with | [_, _, _], [], _, _ => rfl), rfl⟩
theorem sh1 {K : PySem.W.Frag} {f : Addr} {fd : FuncData} {kws : List (Str × V)} (F : FunD K t1.x t1.qual t1.params t1.body t1.scope t1.dvs kws f fd) (kr : KwRel K t1.kwd kws) : ∀ q ∈ sh 1, Shp K fd t1.ps q.1 q.2.1 q.2.2 ∧ q.2.2.length = t1.ps.length := by
  intro q hq
  simp only [sh, List.mem_cons, List.not_mem_nil, or_false] at hq
  rcases hq with rfl
  · exact ⟨shp_of F 1 [] [0] (by decide) (fun _ _ _ _ _ _ us ws h1 h2 => match us, ws, h1, h2 with | [_], [], _, _ => rfl), rfl⟩
theorem sh2 {K : PySem.W.Frag} {f : Addr} {fd : FuncData} {kws : List (Str × V)} (F : FunD K t2.x t2.qual t2.params t2.body t2.scope t2.dvs kws f fd) (kr : KwRel K t2.kwd kws) : ∀ q ∈ sh 2, Shp K fd t2.ps q.1 q.2.1 q.2.2 ∧ q.2.2.length = t2.ps.length := by
  intro q hq
  simp only [sh, List.mem_cons, List.not_mem_nil, or_false] at hq
  rcases hq with rfl
  · exact ⟨shp_of F 1 [] [0] (by decide) (fun _ _ _ _ _ _ us ws h1 h2 => match us, ws, h1, h2 with | [_], [], _, _ => rfl), rfl⟩
theorem sh9 {K : PySem.W.Frag} {f : Addr} {fd : FuncData} {kws : List (Str × V)} (F : FunD K t9.x t9.qual t9.params t9.body t9.scope t9.dvs kws f fd) (kr : KwRel K t9.kwd kws) : ∀ q ∈ sh 9, Shp K fd t9.ps q.1 q.2.1 q.2.2 ∧ q.2.2.length = t9.ps.length := by
  intro q hq
  simp only [sh, List.mem_cons, List.not_mem_nil, or_false] at hq
  rcases hq with rfl
  · exact ⟨shp_of F 1 [] [0] (by decide) (fun _ _ _ _ _ _ us ws h1 h2 => match us, ws, h1, h2 with | [_], [], _, _ => rfl), rfl⟩
theorem sh10 {K : PySem.W.Frag} {f : Addr} {fd : FuncData} {kws : List (Str × V)} (F : FunD K t10.x t10.qual t10.params t10.body t10.scope t10.dvs kws f fd) (kr : KwRel K t10.kwd kws) : ∀ q ∈ sh 10, Shp K fd t10.ps q.1 q.2.1 q.2.2 ∧ q.2.2.length = t10.ps.length := by
  intro q hq
  simp only [sh, List.mem_cons, List.not_mem_nil, or_false] at hq
  rcases hq with rfl
  · exact ⟨shp_of F 1 [] [0] (by decide) (fun _ _ _ _ _ _ us ws h1 h2 => match us, ws, h1, h2 with | [_], [], _, _ => rfl), rfl⟩
theorem sh11 {K : PySem.W.Frag} {f : Addr} {fd : FuncData} {kws : List (Str × V)} (F : FunD K t11.x t11.qual t11.params t11.body t11.scope t11.dvs kws f fd) (kr : KwRel K t11.kwd kws) : ∀ q ∈ sh 11, Shp K fd t11.ps q.1 q.2.1 q.2.2 ∧ q.2.2.length = t11.ps.length := by
  intro q hq
  simp only [sh, List.mem_cons, List.not_mem_nil, or_false] at hq
  rcases hq with rfl
  · exact ⟨shp_of F 3 [] [0, 1, 2] (by decide) (fun _ _ _ _ _ _ us ws h1 h2 => match us, ws, h1, h2 with | [_, _, _], [], _, _ => rfl), rfl⟩
theorem sh12 {K : PySem.W.Frag} {f : Addr} {fd : FuncData} {kws : List (Str × V)} (F : FunD K t12.x t12.qual t12.params t12.body t12.scope t12.dvs kws f fd) (kr : KwRel K t12.kwd kws) : ∀ q ∈ sh 12, Shp K fd t12.ps q.1 q.2.1 q.2.2 ∧ q.2.2.length = t12.ps.length := by
  intro q hq
  simp only [sh, List.mem_cons, List.not_mem_nil, or_false] at hq
  rcases hq with rfl
  · exact ⟨shp_of F 2 [] [0, 1] (by decide) (fun _ _ _ _ _ _ us ws h1 h2 => match us, ws, h1, h2 with | [_, _], [], _, _ => rfl), rfl⟩
theorem sh500 {K : PySem.W.Frag} {f : Addr} {fd : FuncData} {kws : List (Str × V)} (F : FunD K t500.x t500.qual t500.params t500.body t500.scope t500.dvs kws f fd) (kr : KwRel K t500.kwd kws) : ∀ q ∈ sh 500, Shp K fd t500.ps q.1 q.2.1 q.2.2 ∧ q.2.2.length = t500.ps.length := by
  intro q hq
  simp only [sh, List.mem_cons, List.not_mem_nil, or_false] at hq
  rcases hq with rfl
  · exact ⟨shp_of F 3 ["bars"] [0, 1, 2, 3] (by decide) (fun _ _ _ _ _ _ us ws h1 h2 => match us, ws, h1, h2 with | [_, _, _], [_], _, _ => rfl), rfl⟩
theorem sh504 {K : PySem.W.Frag} {f : Addr} {fd : FuncData} {kws : List (Str × V)} (F : FunD K t504.x t504.qual t504.params t504.body t504.scope t504.dvs kws f fd) (kr : KwRel K t504.kwd kws) : ∀ q ∈ sh 504, Shp K fd t504.ps q.1 q.2.1 q.2.2 ∧ q.2.2.length = t504.ps.length := by
  intro q hq
  simp only [sh, List.mem_cons, List.not_mem_nil, or_false] at hq
  rcases hq with rfl
  · exact ⟨shp_of F 2 [] [0, 1] (by decide) (fun _ _ _ _ _ _ us ws h1 h2 => match us, ws, h1, h2 with | [_, _], [], _, _ => rfl), rfl⟩
theorem sh506 {K : PySem.W.Frag} {f : Addr} {fd : FuncData} {kws : List (Str × V)} (F : FunD K t506.x t506.qual t506.params t506.body t506.scope t506.dvs kws f fd) (kr : KwRel K t506.kwd kws) : ∀ q ∈ sh 506, Shp K fd t506.ps q.1 q.2.1 q.2.2 ∧ q.2.2.length = t506.ps.length := by
  intro q hq
  simp only [sh, List.mem_cons, List.not_mem_nil, or_false] at hq
  rcases hq with rfl
  · exact ⟨shp_of F 2 [] [0, 1] (by decide) (fun _ _ _ _ _ _ us ws h1 h2 => match us, ws, h1, h2 with | [_, _], [], _, _ => rfl), rfl⟩
theorem sh507 {K : PySem.W.Frag} {f : Addr} {fd : FuncData} {kws : List (Str × V)} (F : FunD K t507.x t507.qual t507.params t507.body t507.scope t507.dvs kws f fd) (kr : KwRel K t507.kwd kws) : ∀ q ∈ sh 507, Shp K fd t507.ps q.1 q.2.1 q.2.2 ∧ q.2.2.length = t507.ps.length := by
  intro q hq
  simp only [sh, List.mem_cons, List.not_mem_nil, or_false] at hq
  rcases hq with rfl | rfl
  · exact ⟨shp_of F 1 ["right", "left"] [0, 2, 1] (by decide) (fun _ _ _ _ _ _ us ws h1 h2 => match us, ws, h1, h2 with | [_], [_, _], _, _ => rfl), rfl⟩
  · exact ⟨shp_of F 3 [] [0, 1, 2] (by decide) (fun _ _ _ _ _ _ us ws h1 h2 => match us, ws, h1, h2 with | [_, _, _], [], _, _ => rfl), rfl⟩
theorem sh508 {K : PySem.W.Frag} {f : Addr} {fd : FuncData} {kws : List (Str × V)} (F : FunD K t508.x t508.qual t508.params t508.body t508.scope t508.dvs kws f fd) (kr : KwRel K t508.kwd kws) : ∀ q ∈ sh 508, Shp K fd t508.ps q.1 q.2.1 q.2.2 ∧ q.2.2.length = t508.ps.length := by
  intro q hq
  simp only [sh, List.mem_cons, List.not_mem_nil, or_false] at hq
  rcases hq with rfl
  · exact ⟨shp_of F 2 [] [0, 1] (by decide) (fun _ _ _ _ _ _ us ws h1 h2 => match us, ws, h1, h2 with | [_, _], [], _, _ => rfl), rfl⟩
theorem sh509 {K : PySem.W.Frag} {f : Addr} {fd : FuncData} {kws : List (Str × V)} (F : FunD K t509.x t509.qual t509.params t509.body t509.scope t509.dvs kws f fd) (kr : KwRel K t509.kwd kws) : ∀ q ∈ sh 509, Shp K fd t509.ps q.1 q.2.1 q.2.2 ∧ q.2.2.length = t509.ps.length := by
  intro q hq
  simp only [sh, List.mem_cons, List.not_mem_nil, or_false] at hq
  rcases hq with rfl | rfl
  · exact ⟨shp_of F 1 ["row"] [0, 1] (by decide) (fun _ _ _ _ _ _ us ws h1 h2 => match us, ws, h1, h2 with | [_], [_], _, _ => rfl), rfl⟩
  · exact ⟨shp_of F 2 [] [0, 1] (by decide) (fun _ _ _ _ _ _ us ws h1 h2 => match us, ws, h1, h2 with | [_, _], [], _, _ => rfl), rfl⟩
theorem sh1000 {K : PySem.W.Frag} {f : Addr} {fd : FuncData} {kws : List (Str × V)} (F : FunD K t1000.x t1000.qual t1000.params t1000.body t1000.scope t1000.dvs kws f fd) (kr : KwRel K t1000.kwd kws) : ∀ q ∈ sh 1000, Shp K fd t1000.ps q.1 q.2.1 q.2.2 ∧ q.2.2.length = t1000.ps.length := by
  intro q hq
  simp only [sh, List.mem_cons, List.not_mem_nil, or_false] at hq
  rcases hq with rfl
  · exact ⟨shp_of F 2 [] [0, 1] (by decide) (fun _ _ _ _ _ _ us ws h1 h2 => match us, ws, h1, h2 with | [_, _], [], _, _ => rfl), rfl⟩
theorem sh1001 {K : PySem.W.Frag} {f : Addr} {fd : FuncData} {kws : List (Str × V)} (F : FunD K t1001.x t1001.qual t1001.params t1001.body t1001.scope t1001.dvs kws f fd) (kr : KwRel K t1001.kwd kws) : ∀ q ∈ sh 1001, Shp K fd t1001.ps q.1 q.2.1 q.2.2 ∧ q.2.2.length = t1001.ps.length := by
  intro q hq
  simp only [sh, List.mem_cons, List.not_mem_nil, or_false] at hq
  rcases hq with rfl
  · exact ⟨shp_of F 1 [] [0] (by decide) (fun _ _ _ _ _ _ us ws h1 h2 => match us, ws, h1, h2 with | [_], [], _, _ => rfl), rfl⟩
theorem sh1002 {K : PySem.W.Frag} {f : Addr} {fd : FuncData} {kws : List (Str × V)} (F : FunD K t1002.x t1002.qual t1002.params t1002.body t1002.scope t1002.dvs kws f fd) (kr : KwRel K t1002.kwd kws) : ∀ q ∈ sh 1002, Shp K fd t1002.ps q.1 q.2.1 q.2.2 ∧ q.2.2.length = t1002.ps.length := by
  intro q hq
  simp only [sh, List.mem_cons, List.not_mem_nil, or_false] at hq
  rcases hq with rfl
  · exact ⟨shp_of F 2 [] [0, 1] (by decide) (fun _ _ _ _ _ _ us ws h1 h2 => match us, ws, h1, h2 with | [_, _], [], _, _ => rfl), rfl⟩
theorem sh1003 {K : PySem.W.Frag} {f : Addr} {fd : FuncData} {kws : List (Str × V)} (F : FunD K t1003.x t1003.qual t1003.params t1003.body t1003.scope t1003.dvs kws f fd) (kr : KwRel K t1003.kwd kws) : ∀ q ∈ sh 1003, Shp K fd t1003.ps q.1 q.2.1 q.2.2 ∧ q.2.2.length = t1003.ps.length := by
  intro q hq
  simp only [sh, List.mem_cons, List.not_mem_nil, or_false] at hq
  rcases hq with rfl
  · exact ⟨shp_of F 2 [] [0, 1] (by decide) (fun _ _ _ _ _ _ us ws h1 h2 => match us, ws, h1, h2 with | [_, _], [], _, _ => rfl), rfl⟩
theorem sh1004 {K : PySem.W.Frag} {f : Addr} {fd : FuncData} {kws : List (Str × V)} (F : FunD K t1004.x t1004.qual t1004.params t1004.body t1004.scope t1004.dvs kws f fd) (kr : KwRel K t1004.kwd kws) : ∀ q ∈ sh 1004, Shp K fd t1004.ps q.1 q.2.1 q.2.2 ∧ q.2.2.length = t1004.ps.length := by
  intro q hq
  simp only [sh, List.mem_cons, List.not_mem_nil, or_false] at hq
  rcases hq with rfl
  · exact ⟨shp_of F 2 [] [0, 1] (by decide) (fun _ _ _ _ _ _ us ws h1 h2 => match us, ws, h1, h2 with | [_, _], [], _, _ => rfl), rfl⟩
theorem sh1005 {K : PySem.W.Frag} {f : Addr} {fd : FuncData} {kws : List (Str × V)} (F : FunD K t1005.x t1005.qual t1005.params t1005.body t1005.scope t1005.dvs kws f fd) (kr : KwRel K t1005.kwd kws) : ∀ q ∈ sh 1005, Shp K fd t1005.ps q.1 q.2.1 q.2.2 ∧ q.2.2.length = t1005.ps.length := by
  intro q hq
  simp only [sh, List.mem_cons, List.not_mem_nil, or_false] at hq
  rcases hq with rfl
  · exact ⟨shp_of F 1 [] [0] (by decide) (fun _ _ _ _ _ _ us ws h1 h2 => match us, ws, h1, h2 with | [_], [], _, _ => rfl), rfl⟩
theorem sh1006 {K : PySem.W.Frag} {f : Addr} {fd : FuncData} {kws : List (Str × V)} (F : FunD K t1006.x t1006.qual t1006.params t1006.body t1006.scope t1006.dvs kws f fd) (kr : KwRel K t1006.kwd kws) : ∀ q ∈ sh 1006, Shp K fd t1006.ps q.1 q.2.1 q.2.2 ∧ q.2.2.length = t1006.ps.length := by
  intro q hq
  simp only [sh, List.mem_cons, List.not_mem_nil, or_false] at hq
  rcases hq with rfl
  · exact ⟨shp_of F 1 [] [0] (by decide) (fun _ _ _ _ _ _ us ws h1 h2 => match us, ws, h1, h2 with | [_], [], _, _ => rfl), rfl⟩
theorem sh1007 {K : PySem.W.Frag} {f : Addr} {fd : FuncData} {kws : List (Str × V)} (F : FunD K t1007.x t1007.qual t1007.params t1007.body t1007.scope t1007.dvs kws f fd) (kr : KwRel K t1007.kwd kws) : ∀ q ∈ sh 1007, Shp K fd t1007.ps q.1 q.2.1 q.2.2 ∧ q.2.2.length = t1007.ps.length := by
  intro q hq
  simp only [sh, List.mem_cons, List.not_mem_nil, or_false] at hq
  rcases hq with rfl
  · exact ⟨shp_of F 1 [] [0] (by decide) (fun _ _ _ _ _ _ us ws h1 h2 => match us, ws, h1, h2 with | [_], [], _, _ => rfl), rfl⟩
theorem sh1008 {K : PySem.W.Frag} {f : Addr} {fd : FuncData} {kws : List (Str × V)} (F : FunD K t1008.x t1008.qual t1008.params t1008.body t1008.scope t1008.dvs kws f fd) (kr : KwRel K t1008.kwd kws) : ∀ q ∈ sh 1008, Shp K fd t1008.ps q.1 q.2.1 q.2.2 ∧ q.2.2.length = t1008.ps.length := by
  intro q hq
  simp only [sh, List.mem_cons, List.not_mem_nil, or_false] at hq
  rcases hq with rfl
  · exact ⟨shp_of F 2 [] [0, 1] (by decide) (fun _ _ _ _ _ _ us ws h1 h2 => match us, ws, h1, h2 with | [_, _], [], _, _ => rfl), rfl⟩
theorem sh1009 {K : PySem.W.Frag} {f : Addr} {fd : FuncData} {kws : List (Str × V)} (F : FunD K t1009.x t1009.qual t1009.params t1009.body t1009.scope t1009.dvs kws f fd) (kr : KwRel K t1009.kwd kws) : ∀ q ∈ sh 1009, Shp K fd t1009.ps q.1 q.2.1 q.2.2 ∧ q.2.2.length = t1009.ps.length := by
  intro q hq
  simp only [sh, List.mem_cons, List.not_mem_nil, or_false] at hq
  rcases hq with rfl
  · exact ⟨shp_of F 2 [] [0, 1] (by decide) (fun _ _ _ _ _ _ us ws h1 h2 => match us, ws, h1, h2 with | [_, _], [], _, _ => rfl), rfl⟩
theorem sh1010 {K : PySem.W.Frag} {f : Addr} {fd : FuncData} {kws : List (Str × V)} (F : FunD K t1010.x t1010.qual t1010.params t1010.body t1010.scope t1010.dvs kws f fd) (kr : KwRel K t1010.kwd kws) : ∀ q ∈ sh 1010, Shp K fd t1010.ps q.1 q.2.1 q.2.2 ∧ q.2.2.length = t1010.ps.length := by
  intro q hq
  simp only [sh, List.mem_cons, List.not_mem_nil, or_false] at hq
  rcases hq with rfl
  · exact ⟨shp_of F 3 [] [0, 1, 2] (by decide) (fun _ _ _ _ _ _ us ws h1 h2 => match us, ws, h1, h2 with | [_, _, _], [], _, _ => rfl), rfl⟩
theorem sh1011 {K : PySem.W.Frag} {f : Addr} {fd : FuncData} {kws : List (Str × V)} (F : FunD K t1011.x t1011.qual t1011.params t1011.body t1011.scope t1011.dvs kws f fd) (kr : KwRel K t1011.kwd kws) : ∀ q ∈ sh 1011, Shp K fd t1011.ps q.1 q.2.1 q.2.2 ∧ q.2.2.length = t1011.ps.length := by
  intro q hq
  simp only [sh, List.mem_cons, List.not_mem_nil, or_false] at hq
  rcases hq with rfl
  · exact ⟨shp_of F 2 [] [0, 1] (by decide) (fun _ _ _ _ _ _ us ws h1 h2 => match us, ws, h1, h2 with | [_, _], [], _, _ => rfl), rfl⟩
theorem sh1012 {K : PySem.W.Frag} {f : Addr} {fd : FuncData} {kws : List (Str × V)} (F : FunD K t1012.x t1012.qual t1012.params t1012.body t1012.scope t1012.dvs kws f fd) (kr : KwRel K t1012.kwd kws) : ∀ q ∈ sh 1012, Shp K fd t1012.ps q.1 q.2.1 q.2.2 ∧ q.2.2.length = t1012.ps.length := by
  intro q hq
  simp only [sh, List.mem_cons, List.not_mem_nil, or_false] at hq
  rcases hq with rfl
  · exact ⟨shp_of F 2 [] [0, 1] (by decide) (fun _ _ _ _ _ _ us ws h1 h2 => match us, ws, h1, h2 with | [_, _], [], _, _ => rfl), rfl⟩
theorem sh1013 {K : PySem.W.Frag} {f : Addr} {fd : FuncData} {kws : List (Str × V)} (F : FunD K t1013.x t1013.qual t1013.params t1013.body t1013.scope t1013.dvs kws f fd) (kr : KwRel K t1013.kwd kws) : ∀ q ∈ sh 1013, Shp K fd t1013.ps q.1 q.2.1 q.2.2 ∧ q.2.2.length = t1013.ps.length := by
  intro q hq
  simp only [sh, List.mem_cons, List.not_mem_nil, or_false] at hq
  rcases hq with rfl
  · exact ⟨shp_of F 3 [] [0, 1, 2] (by decide) (fun _ _ _ _ _ _ us ws h1 h2 => match us, ws, h1, h2 with | [_, _, _], [], _, _ => rfl), rfl⟩
theorem sh1014 {K : PySem.W.Frag} {f : Addr} {fd : FuncData} {kws : List (Str × V)} (F : FunD K t1014.x t1014.qual t1014.params t1014.body t1014.scope t1014.dvs kws f fd) (kr : KwRel K t1014.kwd kws) : ∀ q ∈ sh 1014, Shp K fd t1014.ps q.1 q.2.1 q.2.2 ∧ q.2.2.length = t1014.ps.length := by
  intro q hq
  simp only [sh, List.mem_cons, List.not_mem_nil, or_false] at hq
  rcases hq with rfl
  · exact ⟨shp_of F 1 [] [0] (by decide) (fun _ _ _ _ _ _ us ws h1 h2 => match us, ws, h1, h2 with | [_], [], _, _ => rfl), rfl⟩
theorem sh1015 {K : PySem.W.Frag} {f : Addr} {fd : FuncData} {kws : List (Str × V)} (F : FunD K t1015.x t1015.qual t1015.params t1015.body t1015.scope t1015.dvs kws f fd) (kr : KwRel K t1015.kwd kws) : ∀ q ∈ sh 1015, Shp K fd t1015.ps q.1 q.2.1 q.2.2 ∧ q.2.2.length = t1015.ps.length := by
  intro q hq
  simp only [sh, List.mem_cons, List.not_mem_nil, or_false] at hq
  rcases hq with rfl
  · exact ⟨shp_of F 1 [] [0] (by decide) (fun _ _ _ _ _ _ us ws h1 h2 => match us, ws, h1, h2 with | [_], [], _, _ => rfl), rfl⟩
theorem hS {K : PySem.W.Frag} : ∀ p ∈ T, ∀ (f : Addr) (fd : FuncData) (kws : List (Str × V)), FunD K p.2.x p.2.qual p.2.params p.2.body p.2.scope p.2.dvs kws f fd → KwRel K p.2.kwd kws → ∀ q ∈ sh p.1, Shp K fd p.2.ps q.1 q.2.1 q.2.2 ∧ q.2.2.length = p.2.ps.length := by
  intro p hp f fd kws F kr
  simp only [T, List.mem_cons, List.not_mem_nil, or_false] at hp
  rcases hp with rfl | rfl | rfl | rfl | rfl | rfl | rfl | rfl | rfl | rfl | rfl | rfl | rfl | rfl | rfl | rfl | rfl | rfl | rfl | rfl | rfl | rfl | rfl | rfl | rfl | rfl | rfl | rfl | rfl
  · exact sh0 F kr
  · exact sh1 F kr
  · exact sh2 F kr
  · exact sh9 F kr
  · exact sh10 F kr
  · exact sh11 F kr
  · exact sh12 F kr
  · exact sh500 F kr
  · exact sh504 F kr
  · exact sh506 F kr
  · exact sh507 F kr
  · exact sh508 F kr
  · exact sh509 F kr
  · exact sh1000 F kr
  · exact sh1001 F kr
  · exact sh1002 F kr
  · exact sh1003 F kr
  · exact sh1004 F kr
  · exact sh1005 F kr
  · exact sh1006 F kr
  · exact sh1007 F kr
  · exact sh1008 F kr
  · exact sh1009 F kr
  · exact sh1010 F kr
  · exact sh1011 F kr
  · exact sh1012 F kr
  · exact sh1013 F kr
  · exact sh1014 F kr
  · exact sh1015 F kr
theorem hB {K : PySem.W.Frag} : ∀ p ∈ T, ∀ c x, p.2.wh = .prp c x → ∀ (f : Addr) (fd : FuncData) (kws : List (Str × V)), FunD K p.2.x p.2.qual p.2.params p.2.body p.2.scope p.2.dvs kws f fd → Binds K fd p.2.ps [] := by
  intro p hp c x hw f fd kws F
  simp only [T, List.mem_cons, List.not_mem_nil, or_false] at hp
  rcases hp with rfl | rfl | rfl | rfl | rfl | rfl | rfl | rfl | rfl | rfl | rfl | rfl | rfl | rfl | rfl | rfl | rfl | rfl | rfl | rfl | rfl | rfl | rfl | rfl | rfl | rfl | rfl | rfl | rfl
  · cases hw
  · cases hw
  · cases hw
  · cases hw
  · cases hw
  · cases hw
  · cases hw
  · cases hw
  · cases hw
  · cases hw
  · cases hw
  · cases hw
  · cases hw
  · cases hw
  · cases hw
  · cases hw
  · cases hw
  · cases hw
  · cases hw
  · cases hw
  · cases hw
  · cases hw
  · cases hw
  · cases hw
  · cases hw
  · cases hw
  · cases hw
  · cases hw
  · cases hw
end Mp.K07
open PySem PySem.W PySem.Calls PyProof.Rows
theorem K07_holds (hlaw : ∀ ns : List Int, ns.length ≤ 63 → (∀ k ∈ ns, Builtin.Int.intBits k ≤ 1048576) → Mp.CC Mp.K07.P 12 1015 [.scr (ns.map Mp.D.int)] [] (fun d _ => d = .bl true) (fun _ _ _ => False)) : PySem.Challenge.rw_oddfigures_k07_rows_judged.Holds := by
  w_on; o_law
  refine HandSHeadRun.head_any (r := OpenLaw.row PySem.Challenge.rw_oddfigures_k07_rows_judged) (q := view (OpenLaw.row PySem.Challenge.rw_oddfigures_k07_rows_judged).prog [42]) (H := Mp.K07.hk) (ob := Mp.K07.ob) (M := 20000) (loose := Mp.K07.loose) (d := HandSHeadRun.topDef (OpenLaw.row PySem.Challenge.rw_oddfigures_k07_rows_judged).prog 42) (kwd := []) Mp.K07.ob_eq
    (by kernel_rfl) (fun s => by kernel_rfl) Mp.K07.run (by kernel_rfl) (by kernel_rfl) (by kernel_rfl) (by rfl) (by first | assumption | decide +kernel) (by decide +kernel) ⟨rfl, rfl, rfl, rfl, rfl, by decide +kernel⟩ ?hw ?hc
  case hw => w_witness2
  case hc =>
    refine Mp.walk_ofM (l := PySem.Challenge.rw_oddfigures_k07_rows_judged) (n := 63) (k := 3 * 12) (x := "_law_script") rfl (by decide) (by kernel_rfl) ⟨rfl, by decide, by decide⟩ ?F
    intro w mg fa h Y G hmg0
    obtain ⟨K, KX, c⟩ := Y
    have hmg : mg ("law" : PySem.Str) = some (.ref fa) := by
      have e : (HandSHeadRun.topDef (OpenLaw.row PySem.Challenge.rw_oddfigures_k07_rows_judged).prog 42).name = ("law" : PySem.Str) := by kernel_rfl
      rw [← e]
      exact hmg0
    have md := Mp.mdM KX G c Mp.K07.hS Mp.K07.hB
    have hp : ((1015, Mp.K07.t1015) : Nat × Mp.FT) ∈ Mp.K07.T := by simp [Mp.K07.T]
    obtain ⟨wo, fd, kws, F, kr⟩ := c.def_ hp
    have e := hmg.symm.trans (mg_of KX G (He.eqO_ok wo))
    cases e
    have b := L2.FunD.bindsA (ps := ["_law_script"]) F fun _ _ _ _ _ _ us hl => match us, hl with | [_], _ => rfl
    exact ⟨K, fd, Mp.ERx ⟨K, none⟩, Mp.CC Mp.K07.P 12, 1015, KX, fun s v => b s [v] rfl, hlaw, fun base _ _ => Mp.fns_run (Pg := PySem.Challenge.pw_oddfigures_k07_rows_judged) md Mp.K07.htop Mp.K07.hP Mp.K07.hT 12 1015 Mp.K07.t1015 _ fd _ kws hp F⟩
namespace Mp
open PySem PySem.Spec L2
namespace K07
theorem hL : HL P := ⟨fun f h => by unfold P; rw [if_pos h]⟩
theorem tk : TakeP P 1002 1 := fun n h Q X m l k hn hm hm2 hx q => take_ok (a := 6421) (b := 292) (c := 30671) (d := 16) rfl hn (by decide) (by decide) (by decide) (by decide) (by decide) (by decide) (by decide) (by decide) hm hm2 hx q
section
variable {n : Nat} {h : List CO} {Q : D → List CO → Prop} {X : Nat → List D → List CO → Prop} {r : Int} {ds : List Int} {ps : List (Int × Int)}
theorem told_good {xs : List Int} (hn : 6 ≤ n) (hb : -100 ≤ r ∧ r ≤ 100) (hl : xs.length ≤ 1000000) (hr : isRow ds ps (.tup (xs.map D.int)) = true) : CC P n 1011 [schD r ds ps, .tup (xs.map D.int)] h Q X = Q (.lst [.str "value", .int (valI r xs)]) h := by
  rw [CC_eq (fn := fn_law_told) rfl (by omega) rfl]
  simp [fn_law_told, startE, isIn, isEqM, callB, methQ]
  rw [value_of_eq hL (by omega) hb hl hr]
theorem told_bad {d : D} (hn : 6 ≤ n) (hv : tyOk d = true) (hs : ∀ es, d = .tup es → (∀ x ∈ es, tyOk x = true) ∧ es.length ≤ 1000000) (hr : isRow ds ps d = false) : CC P n 1011 [schD r ds ps, d] h Q X = Q (.lst [.str "row", d, .bl true]) h := by
  have x1 : fldIx 104 (Str.ofString "row") = some 0 := by decide +kernel
  rw [CC_eq (fn := fn_law_told) rfl (by omega) rfl]
  simp [fn_law_told, startE, isIn, isEqM, callB, methQ]
  rw [value_of_bad hL (by omega) hv hs hr]
  simp [excSub, isProp, x1]
theorem ty_ints {xs : List Int} : ∀ x ∈ xs.map D.int, tyOk x = true := fun x hx => by obtain ⟨i, _, rfl⟩ := List.mem_map.mp hx; rfl
theorem judged_eq {xs : List Int} (hn : 8 ≤ n) (s : SchOk r ds ps) (hl : xs.length ≤ 1000000) : CC P n 1013 [mdD r ds ps, schD r ds ps, .tup (xs.map D.int)] h Q X = Q (.bl true) h := by
  have hb := s.rb
  rw [CC_eq (fn := fn_law_judged) rfl (by omega) rfl]
  have e1 := isRow_ints (ps := ps) (xs := xs) s.dg.b
  have e0 : ∀ (R : D → List CO → Prop) Y, CC P (n - 1) 1008 [mdD r ds ps, .tup (xs.map D.int)] h R Y = R (.bl (xs.all (fun x => ds.contains x) && freeL ps xs)) h := fun R Y => is_row_eq rfl (by omega) hl
  have e2 : ∀ (R : D → List CO → Prop) Y, CC P (n - 1) 508 [schD r ds ps, .tup (xs.map D.int)] h R Y = R (.bl (isRow ds ps (.tup (xs.map D.int)))) h := fun R Y => contains_eq hL (by omega) rfl (fun es e => by cases e; exact ⟨ty_ints, by simpa using hl⟩)
  generalize hB : (xs.all (fun x => ds.contains x) && freeL ps xs) = B at e0 e1
  rw [e1] at e2
  cases B with
  | true =>
    have e3 : ∀ (R : D → List CO → Prop) Y, CC P (n - 1) 1011 [schD r ds ps, .tup (xs.map D.int)] h R Y = R (.lst [.str "value", .int (valI r xs)]) h := fun R Y => told_good (by omega) (by omega) hl e1
    have e4 : ∀ (R : D → List CO → Prop) Y, CC P (n - 1) 1009 [.int r, .tup (xs.map D.int)] h R Y = R (.int (valI r xs)) h := fun R Y => value_eq rfl (by omega) (by omega) hl
    have vm : view h (mdD r ds ps) = .lst [.int r, .lst (ds.map D.int), .lst (ps.map prD)] := rfl
    simp [fn_law_judged, startE, callB, e0, isIn, isEqM, methQ, e2, e3, e4, vm, at0, eqOk, flatD, flatDs, show PyData.strOk (Str.ofString "value") = true by decide +kernel]
  | false =>
    have e3 : ∀ (R : D → List CO → Prop) Y, CC P (n - 1) 1011 [schD r ds ps, .tup (xs.map D.int)] h R Y = R (.lst [.str "row", .tup (xs.map D.int), .bl true]) h := fun R Y => told_bad (by omega) rfl (fun es e => by cases e; exact ⟨ty_ints, by simpa using hl⟩) e1
    simp [fn_law_judged, startE, callB, e0, isIn, isEqM, methQ, e2, e3, eqOk, flatD, flatDs, flat_ints, eqDs_ints, show PyData.strOk (Str.ofString "row") = true by decide +kernel]
theorem odd_row_ok {l K : Nat} {xs : List Int} (hn : 2 ≤ n) (hb : ∀ x ∈ xs, -9 ≤ x ∧ x ≤ 9) (hl : xs.length ≤ 1000) (hx : Bx K h l) (hK : 3 ≤ K)
    (q : ∀ (ys : List Int) h', ys.length ≤ 2001 → Bx (K - 3) h' l → Ot l h h' → Q (.tup (ys.map D.int)) h') : CC P n 1012 [.cell l, .tup (xs.map D.int)] h Q X := by
  refine CC_of (fn := fn_law_odd_row) rfl (by omega) rfl ?_
  have sz : sizeLine = 16777216 := sizeLine_eq
  have tk := tk
  simp [fn_law_odd_row, startE]
  refine TakeP.use (by assumption) (by assumption) (by omega) (by first | decide | omega) (by first | decide | omega) (by omega) fun w g1 w0 w1 bx1 ot1 => ?_
  simp
  refine TakeP.use (by assumption) (by assumption) (by omega) (by first | decide | omega) (by first | decide | omega) (by omega) fun a g2 a0 a1 bx2 ot2 => ?_
  obtain ⟨a, rfl⟩ := Int.eq_ofNat_of_zero_le a0
  simp
  refine TakeP.use (by assumption) (by assumption) (by omega) (by first | decide | omega) (by first | decide | omega) (by omega) fun d g3 d0 d1 bx3 ot3 => ?_
  have ot := (ot1.trans ot2).trans ot3
  simp
  by_cases hw0 : w = 0
  · simp [hw0, cutL_take, cutL_drop]
    refine ⟨by omega, by omega, ?_⟩
    have := q (xs.take a ++ [d - 9] ++ xs.drop a) g3 (by simp; omega) (bx3.mono (by omega)) ot
    simpa [List.map_take, List.map_drop] using this
  by_cases hw1 : w = 1
  · simp [hw1]
    by_cases ha : a < xs.length
    · have e1 : cutL (xs.map D.int) (some ((a : Int) + 1)) none = (xs.map D.int).drop (a + 1) := by have := cutL_drop (xs.map D.int) (a + 1); simpa using this
      simp [ha, cutL_take, e1]
      refine ⟨by omega, by omega, ?_⟩
      have := q (xs.take a ++ [d - 9] ++ xs.drop (a + 1)) g3 (by simp; omega) (bx3.mono (by omega)) ot
      simpa [List.map_take, List.map_drop] using this
    · simp [ha]
      exact q xs g3 (by omega) (bx3.mono (by omega)) ot
  by_cases hw2 : w = 2
  · obtain ⟨b, eb⟩ : ∃ b : Nat, (if 1 < (a : Int) then (a : Int) - 1 else 0) = b := ⟨(if 1 < (a : Int) then (a : Int) - 1 else 0).toNat, by split <;> omega⟩
    simp [hw2, eb, cutL_take, cutL_drop]
    refine ⟨by omega, ?_⟩
    have := q (xs.take a ++ xs.drop b) g3 (by simp; omega) (bx3.mono (by omega)) ot
    simpa [List.map_take, List.map_drop] using this
  by_cases hw3 : w = 3
  · simp [hw3]
    have := q xs.reverse g3 (by simp; omega) (bx3.mono (by omega)) ot
    simpa using this
  simp [hw0, hw1, hw2, hw3]
  exact q xs g3 (by omega) (bx3.mono (by omega)) ot
end
end K07
end Mp
namespace Mp
open PySem PySem.Spec L2
/-- the scheme of a model -/
def schOf : D → D
  | .lst [.int r, .lst es, .lst qs] => schD r (es.map intD) (qs.map pairD)
  | _ => .non
theorem schOf_md {r : Int} {ds : List Int} {ps : List (Int × Int)} : schOf (mdD r ds ps) = schD r ds ps := by
  show schD r ((ds.map D.int).map intD) ((ps.map prD).map pairD) = _
  rw [intD_int, pairD_prD]
namespace K07
section
variable {n : Nat} {h : List CO} {Q : D → List CO → Prop} {X : Nat → List D → List CO → Prop}
def RS (l : Nat) (r0 : Int) (ds0 : List Int) (ps0 : List (Int × Int)) (r1 : Int) (ds1 : List Int) (ps1 : List (Int × Int)) (m : Int) (x0 x1 x2 : List Int) (v : List Sl) : List Sl :=
  [.shr (.cell l), .un, .shr (.lst [mdD r0 ds0 ps0, mdD r1 ds1 ps1]), .shr (.lst [schD r0 ds0 ps0, schD r1 ds1 ps1]), .shr (.int m), .own (.lst [.tup (x0.map D.int), .tup (x1.map D.int), .tup (x2.map D.int)])] ++ v
theorem right1 {l K : Nat} {E : EndD} (hn : 10 ≤ n) (hx : Bx K h l) (hK : 30000 ≤ K)
    (q : ∀ r0 ds0 ps0 r1 ds1 ps1 m x0 x1 x2 g, SchOk r0 ds0 ps0 → SchOk r1 ds1 ps1 → x0.length ≤ 300 → x1.length ≤ 300 → x2.length ≤ 3000 → (∀ x ∈ x0, x ∈ ds0) → Bx (K - 25000) g l → E.nx ⟨RS l r0 ds0 ps0 r1 ds1 ps1 m x0 x1 x2 [.un, .un, .un, .un, .un, .un, .un, .un, .un], g⟩) : wSs (CC P (n - 1)) (fn_law_right.body.take 5) ⟨startE fn_law_right [.cell l], h⟩ E := by
  have sz : sizeLine = 16777216 := sizeLine_eq
  have mC : MonC (CC P (n - 1)) := CC_mono _
  have tk := tk
  simp [fn_law_right, startE]
  refine callB_of (scheme_ok (t := 1002) (d := 1004) (p := 1005) rfl tk rfl rfl (by omega) hx (by omega) fun r0 ds0 ps0 g1 so0 bx1 ot1 => ?_)
  simp
  refine callB_of (scheme_ok (t := 1002) (d := 1004) (p := 1005) rfl tk rfl rfl (by omega) bx1 (by omega) fun r1 ds1 ps1 g2 so1 bx2 ot2 => ?_)
  have em : ∀ r ds ps, D.lst [.int r, .lst (List.map D.int ds), .lst (List.map prD ps)] = mdD r ds ps := fun _ _ _ => rfl
  simp only [em]
  simp [show 2 ≤ sizeLine by omega]
  rw [lcB_map schOf ?lm]
  case lm =>
    intro x hx R
    simp at hx
    rcases hx with rfl | rfl
    · simp [callB]
      rw [made_eq hL rfl (by omega) so0, schOf_md]
    · simp [callB]
      rw [made_eq hL rfl (by omega) so1, schOf_md]
  simp only [List.map_cons, List.map_nil, schOf_md]
  simp
  refine TakeP.use (by assumption) (by assumption) (by omega) (by first | decide | omega) (by first | decide | omega) (by omega) fun a g3 a0 a1 bx3 ot3 => ?_
  simp
  refine TakeP.use (by assumption) (by assumption) (by omega) (by first | decide | omega) (by first | decide | omega) (by omega) fun b g4 b0 b1 bx4 ot4 => ?_
  simp
  refine TakeP.use (by assumption) (by assumption) (by omega) (by first | decide | omega) (by first | decide | omega) (by omega) fun c g5 c0 c1 bx5 ot5 => ?_
  simp
  have e9 : CMul (if (6 : Int) < c then 1 else 0) 2 := .inr ⟨by decide, by decide⟩
  obtain ⟨md, e, m, rfl, m0, m1⟩ : ∃ d, atI [D.int a, D.int b, D.int 300] ((if (6 : Int) < c then 1 else 0) * 2) = some d ∧ ∃ m : Int, d = .int m ∧ 0 ≤ m ∧ m ≤ 300 := by
    by_cases hc : (6 : Int) < c
    · refine ⟨.int 300, ?_, 300, rfl, by omega, by omega⟩
      rw [if_pos hc]
      rfl
    · refine ⟨.int a, ?_, a, rfl, by omega, by omega⟩
      rw [if_neg hc]
      rfl
  simp [e9, e, at0, at1]
  refine callB_of (row_ok rfl tk (by omega) (by have := so0.dg.l6; omega) (by have := so0.plen; omega) m0 (by omega) bx5 (by omega) fun x0 g6 h0 l0 f0 bx6 ot6 => ?_)
  simp [at0, at1]
  refine callB_of (row_ok rfl tk (by omega) (by have := so1.dg.l6; omega) (by have := so1.plen; omega) (by decide) (by decide) bx6 (by omega) fun x1 g7 h1 l1 f1 bx7 ot7 => ?_)
  simp [at0, at1]
  refine callB_of (odd_row_ok (by omega) (fun x hx => so0.dg.b x (h0 x hx)) (by omega) bx7 (by omega) fun x2 g8 l2 bx8 ot8 => ?_)
  simp [show 2 < sizeLine by omega]
  exact q r0 ds0 ps0 r1 ds1 ps1 m x0 x1 x2 g8 so0 so1 (by omega) (by omega) (by omega) h0 (bx8.mono (by omega))
/-- all lines are judged right -/
theorem right2 {l K : Nat} {E : EndD} {r0 r1 m : Int} {ds0 ds1 : List Int} {ps0 ps1 : List (Int × Int)} {x0 x1 x2 : List Int} (hn : 10 ≤ n) (so0 : SchOk r0 ds0 ps0) (so1 : SchOk r1 ds1 ps1) (l0 : x0.length ≤ 300) (l1 : x1.length ≤ 300) (l2 : x2.length ≤ 3000) (hx : Bx K h l) (hK : 5 ≤ K)
    (q : ∀ v6 v7 g, E.nx ⟨RS l r0 ds0 ps0 r1 ds1 ps1 m x0 x1 x2 [v6, v7, .un, .un, .un, .un, .un, .un, .un], g⟩) : wSs (CC P (n - 1)) ((fn_law_right.body.drop 5).take 1) ⟨RS l r0 ds0 ps0 r1 ds1 ps1 m x0 x1 x2 [.un, .un, .un, .un, .un, .un, .un, .un, .un], h⟩ E := by
  have sz : sizeLine = 16777216 := sizeLine_eq
  have mC : MonC (CC P (n - 1)) := CC_mono _
  have tk := tk
  simp [fn_law_right, RS, show 3 + 1 ≤ sizeLine by omega]
  refine callB_of (mixed_ok rfl tk (k := K - 4) (by omega) (hx.mono (by simp; omega)) (by simp) fun es g1 pm bx1 ot1 => ?_)
  have hes : ∀ x ∈ es, ∃ xs : List Int, x = .tup (xs.map D.int) ∧ xs.length ≤ 3000 := fun x hx => by
    have := pm.mem_iff.mp hx
    simp at this
    rcases this with rfl | rfl | rfl | rfl
    · exact ⟨_, rfl, by omega⟩
    · exact ⟨_, rfl, by omega⟩
    · exact ⟨_, rfl, by omega⟩
    · exact ⟨[], rfl, by simp⟩
  have el : es.length ≤ sizeLine := by rw [pm.length_eq]; simp; omega
  simp [el]
  refine forB_ok mC (fun _ st => ∃ v6 v7, st = ⟨RS l r0 ds0 ps0 r1 ds1 ps1 m x0 x1 x2 [v6, v7, .un, .un, .un, .un, .un, .un, .un], g1⟩) ⟨_, _, rfl⟩ ?_ ?_
  · rintro i x _ hi ⟨v6, v7, rfl⟩
    obtain ⟨xs, rfl, hl⟩ := hes x (List.mem_of_getElem? hi)
    simp [RS, show 3 ≤ sizeLine by omega]
    refine forB_ok mC (fun _ st => ∃ v7, st = ⟨RS l r0 ds0 ps0 r1 ds1 ps1 m x0 x1 x2 [.shr (.tup (xs.map D.int)), v7, .un, .un, .un, .un, .un, .un, .un], g1⟩) ⟨_, rfl⟩ ?_ ?_
    · rintro j y _ hj ⟨v7, rfl⟩
      have hy := List.mem_of_getElem? hj
      simp at hy
      rcases hy with rfl | rfl | rfl
      · simp [RS, at0, callB]
        rw [judged_eq (by omega) so0 (by omega)]
        simp
        exact Rch_of ⟨_, rfl⟩
      · simp [RS, at1, callB]
        rw [judged_eq (by omega) so1 (by omega)]
        simp
        exact Rch_of ⟨_, rfl⟩
      · simp [RS, at0, callB]
        rw [judged_eq (by omega) so0 (by omega)]
        simp
        exact Rch_of ⟨_, rfl⟩
    · rintro _ ⟨v7, rfl⟩
      simp
      exact Rch_of ⟨_, _, rfl⟩
  · rintro _ ⟨v6, v7, rfl⟩
    simp
    exact q _ _ _
/-- what is no row -/
structure NoRow (ds : List Int) (ps : List (Int × Int)) (d : D) : Prop where
  ty : tyOk d = true
  tp : ∀ es, d = .tup es → (∀ x ∈ es, tyOk x = true) ∧ es.length ≤ 1000000
  no : isRow ds ps d = false
  rp : Rp 5 1000 d
theorem NoRow.app {ds : List Int} {ps : List (Int × Int)} {xs : List Int} {d : D} (hl : xs.length ≤ 4) (hb : ∀ x ∈ xs, -9 ≤ x ∧ x ≤ 9) (hd : tyOk d = true) (hn : hasB ds d = false) (hr : Rp 3 20 d) : NoRow ds ps (.tup (xs.map D.int ++ [d])) where
  ty := rfl
  tp := fun es e => by
    cases e
    refine ⟨fun x hx => ?_, by simp; omega⟩
    rcases List.mem_append.mp hx with z | z
    · exact ty_ints x z
    · simp at z; rw [z]; exact hd
  no := by simp [isRow, hn]
  rp := (Rp.tupN (k := 3) (m := 20) (n := 5) (fun x hx => by
    rcases List.mem_append.mp hx with z | z
    · obtain ⟨i, hi, rfl⟩ := List.mem_map.mp z
      have := hb i hi
      exact (Rp.small (by omega) (by omega)).mono (by omega) (by omega)
    · simp at z; rw [z]; exact hr) (by simp; omega)).mono (by omega) (by omega)
end
end K07
end Mp
namespace Mp
open PySem PySem.Spec L2
namespace K07
section
variable {n : Nat} {h : List CO} {Q : D → List CO → Prop} {X : Nat → List D → List CO → Prop}
theorem right3 {l : Nat} {E : EndD} {r0 r1 m : Int} {ds0 ds1 : List Int} {ps0 ps1 : List (Int × Int)} {x0 x1 x2 : List Int} {v6 v7 : Sl} (hn : 10 ≤ n) (so0 : SchOk r0 ds0 ps0) (h0 : ∀ x ∈ x0, x ∈ ds0)
    (q : ∀ v8 v9 v10, E.nx ⟨RS l r0 ds0 ps0 r1 ds1 ps1 m x0 x1 x2 [v6, v7, v8, v9, v10, .un, .un, .un, .un], h⟩) : wSs (CC P (n - 1)) ((fn_law_right.body.drop 6).take 3) ⟨RS l r0 ds0 ps0 r1 ds1 ps1 m x0 x1 x2 [v6, v7, .un, .un, .un, .un, .un, .un, .un], h⟩ E := by
  have sz : sizeLine = 16777216 := sizeLine_eq
  have mC : MonC (CC P (n - 1)) := CC_mono _
  obtain ⟨one, c4, ol, ob⟩ : ∃ one : List Int, cutL (x0.map D.int) none (some 4) = one.map D.int ∧ one.length ≤ 4 ∧ ∀ x ∈ one, -9 ≤ x ∧ x ≤ 9 :=
    ⟨x0.take 4, by rw [List.map_take]; exact cutL_take (x0.map D.int) 4, by simp; omega, fun x hx => so0.dg.b x (h0 x (List.mem_of_mem_take hx))⟩
  simp [fn_law_right, RS, at0, c4]
  simp [keyD, show one.length + 1 ≤ sizeLine by omega, show 12 ≤ sizeLine by omega]
  have odds : ∀ x ∈ [D.non, D.lst (one.map D.int), D.str (Str.ofString "1"), D.int 3, D.tup (one.map D.int ++ [D.bl true]), D.tup (one.map D.int ++ [D.non]), D.tup (one.map D.int ++ [D.str (Str.ofString "1")]), D.tup (one.map D.int ++ [D.tup [D.int 1]]), D.bl true, D.tup (one.map D.int ++ [D.lst [D.int 1]]), D.tup (one.map D.int ++ [D.dic [] []]), D.dic [D.int 1] [D.int 2]], NoRow ds0 ps0 x := by
    simp only [List.forall_mem_cons, List.not_mem_nil, false_implies, implies_true, and_true]
    refine ⟨⟨rfl, (fun _ e => by cases e), rfl, .of (by decide +kernel)⟩, ⟨rfl, (fun _ e => by cases e), rfl, ?_⟩, ⟨rfl, (fun _ e => by cases e), rfl, .of (by decide +kernel)⟩, ⟨rfl, (fun _ e => by cases e), rfl, .of (by decide +kernel)⟩, .app ol ob rfl rfl (.of (by decide +kernel)), .app ol ob rfl rfl (.of (by decide +kernel)), .app ol ob rfl rfl (.of (by decide +kernel)), .app ol ob rfl rfl (.of (by decide +kernel)), ⟨rfl, (fun _ e => by cases e), rfl, .of (by decide +kernel)⟩, .app ol ob rfl rfl (.of (by decide +kernel)), .app ol ob rfl rfl (.of (by decide +kernel)), ⟨rfl, (fun _ e => by cases e), rfl, .of (by decide +kernel)⟩⟩
    exact (Rp.lstN (k := 0) (m := 4) (n := 4) (fun x hx => by
      obtain ⟨i, hi, rfl⟩ := List.mem_map.mp hx
      have := ob i hi
      exact Rp.small (by omega) (by omega)) (by simpa using ol)).mono (by omega) (by omega)
  refine forB_ok mC (fun _ st => ∃ v8 v9 v10, st = ⟨RS l r0 ds0 ps0 r1 ds1 ps1 m x0 x1 x2 [v6, v7, v8, v9, v10, .un, .un, .un, .un], h⟩) ⟨_, _, _, rfl⟩ ?_ ?_
  · rintro i x _ hi ⟨v8, v9, v10, rfl⟩
    have nr := odds x (List.mem_of_getElem? hi)
    have e1 : ∀ (R : D → List CO → Prop) Y, CC P (n - 1) 508 [schD r0 ds0 ps0, x] h R Y = R (.bl false) h := fun R Y => by
      rw [contains_eq hL (by omega) nr.ty nr.tp, nr.no]
    have e2 : ∀ (R : D → List CO → Prop) Y, CC P (n - 1) 1011 [schD r0 ds0 ps0, x] h R Y = R (.lst [.str "row", x, .bl true]) h := fun R Y => told_bad (by omega) nr.ty nr.tp nr.no
    have e3 : Rp 6 10000 (.lst [.str "row", x, .bl true]) := (Rp.lstN (k := 5) (m := 1000) (n := 3) (fun y hy => by
      simp at hy
      rcases hy with rfl | rfl | rfl
      · exact .of (by decide +kernel)
      · exact nr.rp
      · exact .of (by decide +kernel)) (by simp)).mono (by omega) (by omega)
    have e4 := e3.eq (by omega) (by omega)
    simp [RS, at0, isIn, isEqM, callB, methQ, e1, e2, e4]
    exact Rch_of ⟨_, _, _, rfl⟩
  · rintro _ ⟨v8, v9, v10, rfl⟩
    simp
    exact q _ _ _
end
end K07
end Mp
namespace Mp
open PySem PySem.Spec L2
namespace K07
def Itm (d : D) : Prop := d = .non ∨ d = .bl true ∨ d = .str "1" ∨ d = .str "0" ∨ ∃ i, d = .int i
def inB (ds : List Int) (d : D) : Bool := (ds.map D.int).any (fun z => eqD z d)
theorem Itm.facts {d : D} (h : Itm d) : tyOk d = true ∧ flatD 49 d = true ∧ flatD 50 d = true ∧ (∀ g, view g d = d) ∧ tyD d .bool = (match d with | .bl _ => true | _ => false) := by
  rcases h with rfl | rfl | rfl | rfl | ⟨i, rfl⟩
  · exact ⟨rfl, rfl, rfl, fun _ => rfl, rfl⟩
  · exact ⟨rfl, rfl, rfl, fun _ => rfl, rfl⟩
  · exact ⟨rfl, by decide +kernel, by decide +kernel, fun _ => rfl, rfl⟩
  · exact ⟨rfl, by decide +kernel, by decide +kernel, fun _ => rfl, rfl⟩
  · exact ⟨rfl, rfl, rfl, fun _ => rfl, rfl⟩
theorem inB_has {ds : List Int} {d : D} (h : Itm d) (hb : ∀ x ∈ ds, -9 ≤ x ∧ x ≤ 9) : (if inB ds d = true then !(tyD d .bool) else false) = hasB ds d := by
  rcases h with rfl | rfl | rfl | rfl | ⟨i, rfl⟩
  · have : inB ds .non = false := by unfold inB; rw [List.any_eq_false]; intro x hx; obtain ⟨i, _, rfl⟩ := List.mem_map.mp hx; simp [eqD]
    rw [this]; rfl
  · have : hasB ds (.bl true) = false := rfl
    rw [this]
    simp
  · have : inB ds (.str "1") = false := by unfold inB; rw [List.any_eq_false]; intro x hx; obtain ⟨i, _, rfl⟩ := List.mem_map.mp hx; simp [eqD]
    rw [this]; rfl
  · have : inB ds (.str "0") = false := by unfold inB; rw [List.any_eq_false]; intro x hx; obtain ⟨i, _, rfl⟩ := List.mem_map.mp hx; simp [eqD]
    rw [this]; rfl
  · have e : inB ds (.int i) = decide (i ∈ ds) := any_intD ds i
    rw [e]
    by_cases hm : i ∈ ds
    · rw [hasB_of (hb i hm)]; simp [hm]
    · simp only [hm, decide_false, Bool.false_eq_true, if_false]
      unfold hasB
      have : ds.contains (intD (.int i)) = false := by simpa [intD] using hm
      rw [this, Bool.and_false]
section
variable {n : Nat} {h : List CO} {Q : D → List CO → Prop} {X : Nat → List D → List CO → Prop}
theorem right4 {l : Nat} {E : EndD} {r0 r1 m : Int} {ds0 ds1 : List Int} {ps0 ps1 : List (Int × Int)} {x0 x1 x2 : List Int} {v6 v7 v8 v9 v10 : Sl} (hn : 10 ≤ n) (so0 : SchOk r0 ds0 ps0)
    (q : ∀ v11 v12 v13 v14, E.nx ⟨RS l r0 ds0 ps0 r1 ds1 ps1 m x0 x1 x2 [v6, v7, v8, v9, v10, v11, v12, v13, v14], h⟩) : wSs (CC P (n - 1)) ((fn_law_right.body.drop 9).take 1) ⟨RS l r0 ds0 ps0 r1 ds1 ps1 m x0 x1 x2 [v6, v7, v8, v9, v10, .un, .un, .un, .un], h⟩ E := by
  have sz : sizeLine = 16777216 := sizeLine_eq
  have mC : MonC (CC P (n - 1)) := CC_mono _
  have rl : ∀ a b : Int, ∀ x ∈ rngL a b, Itm x := fun a b x hx => by
    rw [rngL_eq] at hx
    obtain ⟨i, _, rfl⟩ := List.mem_map.mp hx
    exact .inr (.inr (.inr (.inr ⟨i, rfl⟩)))
  have ll : (rngL (-10) 11).length = 21 := by rw [rngL_eq]; rfl
  have ll2 : (rngL (-9) 10).length = 19 := by rw [rngL_eq]; rfl
  have it1 : ∀ x ∈ rngL (-10) 11 ++ [D.non, D.bl true, D.str (Str.ofString "1")], Itm x := fun x hx => by
    rcases List.mem_append.mp hx with z | z
    · exact rl _ _ x z
    · simp at z
      rcases z with rfl | rfl | rfl
      · exact .inl rfl
      · exact .inr (.inl rfl)
      · exact .inr (.inr (.inl rfl))
  have it2 : ∀ x ∈ D.non :: D.int (-10) :: D.bl true :: D.str (Str.ofString "0") :: rngL (-9) 10, Itm x := fun x hx => by
    simp at hx
    rcases hx with rfl | rfl | rfl | rfl | z
    · exact .inl rfl
    · exact .inr (.inr (.inr (.inr ⟨_, rfl⟩)))
    · exact .inr (.inl rfl)
    · exact .inr (.inr (.inr (.inl rfl)))
    · exact rl _ _ x z
  generalize hL1 : rngL (-10) 11 = L1 at *
  generalize hL2 : rngL (-9) 10 = L2 at *
  simp [fn_law_right, RS, hL1, ll, show 24 ≤ sizeLine by omega]
  refine forB_ok mC (fun _ st => ∃ v11 v12 v13 v14, st = ⟨RS l r0 ds0 ps0 r1 ds1 ps1 m x0 x1 x2 [v6, v7, v8, v9, v10, v11, v12, v13, v14], h⟩) ⟨_, _, _, _, rfl⟩ ?_ ?_
  · rintro i a _ hi ⟨v11, v12, v13, v14, rfl⟩
    have ha := it1 a (List.mem_of_getElem? hi)
    simp [RS, hL2, ll2, show 23 ≤ sizeLine by omega]
    refine forB_ok mC (fun _ st => ∃ v12 v13 v14, st = ⟨RS l r0 ds0 ps0 r1 ds1 ps1 m x0 x1 x2 [v6, v7, v8, v9, v10, .shr a, v12, v13, v14], h⟩) ⟨_, _, _, rfl⟩ ?_ ?_
    · rintro j b _ hj ⟨v12, v13, v14, rfl⟩
      have hb := it2 b (List.mem_of_getElem? hj)
      obtain ⟨a1, a2, a3, a4, a5⟩ := ha.facts
      obtain ⟨b1, b2, b3, b4, b5⟩ := hb.facts
      have ka := inB_has ha so0.dg.b
      have kb := inB_has hb so0.dg.b
      have vm : ∀ g, view g (mdD r0 ds0 ps0) = .lst [.int r0, .lst (ds0.map D.int), .lst (ps0.map prD)] := fun _ => rfl
      have ia : (ds0.map D.int).any (fun z => eqD z a) = inB ds0 a := rfl
      have ib : (ds0.map D.int).any (fun z => eqD z b) = inB ds0 b := rfl
      have fl : flatDs 50 (ds0.map D.int) = true := flat_ints _ _
      have al : ∀ (R : D → List CO → Prop) Y, CC P (n - 1) 507 [schD r0 ds0 ps0, a, b] h R Y = R (.bl (allowsB ds0 ps0 a b)) h := fun R Y => allows_eq hL (by omega) a1 b1
      have fp : flatDs 50 (ps0.map prD) = true := flat_prs _
      have ft : flatD 50 (.tup [a, b]) = true := by simp [flatD, flatDs, a2, b2]
      simp only [tgS_nm, bindO_some]
      show wSs (CC P (n - 1)) _ ⟨RS l r0 ds0 ps0 r1 ds1 ps1 m x0 x1 x2 [v6, v7, v8, v9, v10, .shr a, .shr b, v13, v14], h⟩ _
      refine cut mC 1 (fun st => st = ⟨RS l r0 ds0 ps0 r1 ds1 ps1 m x0 x1 x2 [v6, v7, v8, v9, v10, .shr a, .shr b, .shr (.bl (hasB ds0 a)), v14], h⟩) ?_ ?_
      · simp [RS, at0, at1, vm, a4, a3, ia, fl, a1, -List.any_map]
        rw [← ka]
        cases hc : inB ds0 a with
        | false => simp; exact Rch_of rfl
        | true => simp [a1, a4]; exact Rch_of rfl
      rintro _ rfl
      refine cut mC 1 (fun st => st = ⟨RS l r0 ds0 ps0 r1 ds1 ps1 m x0 x1 x2 [v6, v7, v8, v9, v10, .shr a, .shr b, .shr (.bl (hasB ds0 a)), .shr (.bl (isNonD b || hasB ds0 b))], h⟩) ?_ ?_
      · cases hN : isNonD b with
        | true => simp [RS, b4, hN]; exact Rch_of rfl
        | false =>
          rw [← kb]
          cases hc : inB ds0 b with
          | false => simp [RS, at0, at1, vm, b4, b3, ib, fl, b1, hN, hc, -List.any_map]; exact Rch_of rfl
          | true => simp [RS, at0, at1, vm, b4, b3, ib, fl, b1, hN, hc, -List.any_map]; exact Rch_of rfl
      rintro _ rfl
      have e1 : allowsB ds0 ps0 a b = (hasB ds0 a && ((isNonD b || hasB ds0 b) && !((ps0.map prD).any fun z => eqD z (.tup [a, b])))) := by
        unfold allowsB
        cases h1 : hasB ds0 a with
        | false => rfl
        | true =>
          obtain ⟨i, rfl, i1, i2, i3⟩ := hasB_int h1
          cases hN : isNonD b with
          | true =>
            have : b = .non := by
              cases b with
              | non => rfl
              | _ => cases hN
            subst this
            have e : ((ps0.map prD).any fun z => eqD z (.tup [.int i, .non])) = false := by
              rw [List.any_eq_false]
              intro x hx
              obtain ⟨p, _, rfl⟩ := List.mem_map.mp hx
              simp [prD, eqD]
            rw [e]
            rfl
          | false =>
            cases h2 : hasB ds0 b with
            | false => rfl
            | true =>
              obtain ⟨j, rfl, j1, j2, j3⟩ := hasB_int h2
              have e : ((ps0.map prD).any fun z => eqD z (.tup [.int i, .int j])) = decide ((i, j) ∈ ps0) := any_prD ps0 (i, j)
              rw [e]
              show (true && (false || (true && !ps0.contains (i, j)))) = _
              by_cases hm : (i, j) ∈ ps0 <;> simp [hm]
      rw [e1] at al
      generalize hasB ds0 a = A at *
      generalize (isNonD b || hasB ds0 b) = B at *
      have ic : ∀ z, ((ps0.map prD).any fun z => eqD z (.tup [a, b])) = z → ((ps0.map prD).any fun z => eqD z (.tup [a, b])) = z := fun _ e => e
      cases hC : ((ps0.map prD).any fun z => eqD z (.tup [a, b])) <;> rw [hC] at al <;> cases A <;> cases B <;> simp [RS, at0, at2, vm, isIn, isEqM, callB, methQ, al, fp, ft, hC, a4, b4, -List.any_map] <;> exact Rch_of ⟨_, _, _, rfl⟩
    · rintro _ ⟨v12, v13, v14, rfl⟩
      simp
      exact Rch_of ⟨_, _, _, _, rfl⟩
  · rintro _ ⟨v11, v12, v13, v14, rfl⟩
    simp
    exact q _ _ _ _
end
end K07
end Mp
namespace Mp
open PySem PySem.Spec L2
namespace K07
section
variable {n : Nat} {h : List CO} {Q : D → List CO → Prop} {X : Nat → List D → List CO → Prop}
theorem right_ok {l K : Nat} (hn : 10 ≤ n) (hx : Bx K h l) (hK : 40000 ≤ K) (q : ∀ h', Q (.bl true) h') : CC P n 1014 [.cell l] h Q X := by
  refine CC_of (fn := fn_law_right) rfl (by omega) rfl ?_
  have sz : sizeLine = 16777216 := sizeLine_eq
  have mC : MonC (CC P (n - 1)) := CC_mono _
  refine cut mC 5 (fun st => ∃ r0 ds0 ps0 r1 ds1 ps1 m x0 x1 x2 g, SchOk r0 ds0 ps0 ∧ SchOk r1 ds1 ps1 ∧ x0.length ≤ 300 ∧ x1.length ≤ 300 ∧ x2.length ≤ 3000 ∧ (∀ x ∈ x0, x ∈ ds0) ∧ Bx (K - 25000) g l ∧ st = ⟨RS l r0 ds0 ps0 r1 ds1 ps1 m x0 x1 x2 [.un, .un, .un, .un, .un, .un, .un, .un, .un], g⟩) ?_ ?_
  · exact right1 hn hx (by omega) fun r0 ds0 ps0 r1 ds1 ps1 m x0 x1 x2 g a b c d e f bx => ⟨r0, ds0, ps0, r1, ds1, ps1, m, x0, x1, x2, g, a, b, c, d, e, f, bx, rfl⟩
  rintro _ ⟨r0, ds0, ps0, r1, ds1, ps1, m, x0, x1, x2, g, so0, so1, l0, l1, l2, h0, bx, rfl⟩
  refine cut mC 1 (fun st => ∃ v6 v7 g, st = ⟨RS l r0 ds0 ps0 r1 ds1 ps1 m x0 x1 x2 [v6, v7, .un, .un, .un, .un, .un, .un, .un], g⟩) ?_ ?_
  · exact right2 hn so0 so1 l0 l1 l2 bx (by omega) fun v6 v7 g => ⟨v6, v7, g, rfl⟩
  rintro _ ⟨v6, v7, g, rfl⟩
  refine cut mC 3 (fun st => ∃ v8 v9 v10, st = ⟨RS l r0 ds0 ps0 r1 ds1 ps1 m x0 x1 x2 [v6, v7, v8, v9, v10, .un, .un, .un, .un], g⟩) ?_ ?_
  · rw [List.drop_drop]
    exact right3 hn so0 h0 fun v8 v9 v10 => ⟨v8, v9, v10, rfl⟩
  rintro _ ⟨v8, v9, v10, rfl⟩
  refine cut mC 1 (fun st => ∃ v11 v12 v13 v14, st = ⟨RS l r0 ds0 ps0 r1 ds1 ps1 m x0 x1 x2 [v6, v7, v8, v9, v10, v11, v12, v13, v14], g⟩) ?_ ?_
  · rw [List.drop_drop, List.drop_drop]
    exact right4 hn so0 fun v11 v12 v13 v14 => ⟨v11, v12, v13, v14, rfl⟩
  rintro _ ⟨v11, v12, v13, v14, rfl⟩
  obtain ⟨d0, ds', ed⟩ : ∃ d0 ds', ds0 = d0 :: ds' := by
    cases hd : ds0 with
    | nil => have := so0.dg.l1; rw [hd] at this; simp at this
    | cons d0 ds' => exact ⟨d0, ds', rfl⟩
  have vm : ∀ g, view g (mdD r0 ds0 ps0) = .lst [.int r0, .lst (ds0.map D.int), .lst (ps0.map prD)] := fun _ => rfl
  have vm1 : ∀ g, view g (mdD r1 ds1 ps1) = .lst [.int r1, .lst (ds1.map D.int), .lst (ps1.map prD)] := fun _ => rfl
  have ad : atI (ds0.map D.int) 0 = some (.int d0) := by rw [ed]; exact at0
  have hd0 : hasB ds0 (.int d0) = true := by rw [hasB_of (so0.dg.b d0 (by rw [ed]; simp))]; simp [ed]
  refine cut mC 1 (fun st => ∃ v10, st = ⟨RS l r0 ds0 ps0 r1 ds1 ps1 m x0 x1 x2 [v6, v7, v8, v9, v10, v11, v12, v13, v14], g⟩) ?_ ?_
  · simp [fn_law_right, RS, keyD, show 3 ≤ sizeLine by omega]
    refine forB_ok mC (fun _ st => ∃ v10, st = ⟨RS l r0 ds0 ps0 r1 ds1 ps1 m x0 x1 x2 [v6, v7, v8, v9, v10, v11, v12, v13, v14], g⟩) ⟨_, rfl⟩ ?_ ?_
    · rintro i x _ hi ⟨v10, rfl⟩
      have hy := List.mem_of_getElem? hi
      simp at hy
      have hxx : tyOk x = true ∧ hasB ds0 x = false ∧ isNonD x = false := by
        rcases hy with rfl | rfl | rfl <;> exact ⟨rfl, rfl, rfl⟩
      have a1 : ∀ (R : D → List CO → Prop) Y, CC P (n - 1) 507 [schD r0 ds0 ps0, x, .int 0] g R Y = R (.bl false) g := fun R Y => by
        rw [allows_eq hL (by omega) hxx.1 rfl]
        simp [allowsB, hxx.2.1]
      have a2 : ∀ (R : D → List CO → Prop) Y, CC P (n - 1) 507 [schD r0 ds0 ps0, .int d0, x] g R Y = R (.bl false) g := fun R Y => by
        rw [allows_eq hL (by omega) rfl hxx.1]
        simp [allowsB, hxx.2.1, hxx.2.2]
      simp [RS, at0, at1, vm, ad, isIn, isEqM, callB, methQ, a1, a2]
      exact Rch_of ⟨_, rfl⟩
    · rintro _ ⟨v10, rfl⟩
      simp
      exact Rch_of ⟨_, rfl⟩
  rintro _ ⟨v10, rfl⟩
  refine cut mC 1 (fun st => st = ⟨RS l r0 ds0 ps0 r1 ds1 ps1 m x0 x1 x2 [v6, v7, v8, v9, v10, v11, v12, v13, v14], g⟩) ?_ ?_
  · have e1 : eqD (mdD r0 ds0 ps0) (mdD r1 ds1 ps1) = decide (r0 = r1 ∧ ds0 = ds1 ∧ ps0 = ps1) := by
      simp [mdD, eqDs_intsD, eqDs_prsD]
    have f1 : flatD 50 (mdD r0 ds0 ps0) = true := by simp [mdD, flatD, flatDs, flat_ints, flat_prs]
    have f2 : flatD 50 (mdD r1 ds1 ps1) = true := by simp [mdD, flatD, flatDs, flat_ints, flat_prs]
    have v1 : view g (mdD r0 ds0 ps0) = mdD r0 ds0 ps0 := rfl
    have v2 : view g (mdD r1 ds1 ps1) = mdD r1 ds1 ps1 := rfl
    have e2 : ∀ (R : D → List CO → Prop) Y, CC P (n - 1) 504 [schD r0 ds0 ps0, schD r1 ds1 ps1] g R Y = R (.bl (decide (r0 = r1 ∧ ds0 = ds1 ∧ ps0 = ps1))) g := fun R Y => eq_eq hL (by omega)
    generalize decide (r0 = r1 ∧ ds0 = ds1 ∧ ps0 = ps1) = B at e1 e2
    cases B <;> simp [fn_law_right, RS, at0, at1, isIn, isEqM, callB, methQ, e2, v1, v2, eqOk, f1, f2, e1, scalD] <;> exact Rch_of rfl
  rintro _ rfl
  have a1 : ∀ (R : D → List CO → Prop) Y, CC P (n - 1) 507 [schD r0 ds0 ps0, .int d0, .non] g R Y = R (.bl true) g := fun R Y => by
    rw [allows_eq hL (by omega) rfl rfl]
    simp [allowsB, hd0, isNonD]
  have a2 : ∀ (R : D → List CO → Prop) Y, CC P (n - 1) 509 [schD r0 ds0 ps0, .tup []] g R Y = R (.int 0) g := fun R Y => value_of_eq (xs := []) hL (by omega) (by have := so0.rb; omega) (by simp) (by rw [isRow_ints so0.dg.b]; rfl)
  simp [fn_law_right, RS, at0, at1, vm, ad, isIn, isEqM, callB, methQ, a1, a2]
  exact q _
theorem law_ok {ns : List Int} (hl : ns.length ≤ 63) : CC P 12 1015 [.scr (ns.map D.int)] [] (fun d _ => d = .bl true) X := by
  refine CC_of (fn := fn_law) rfl (by omega) rfl ?_
  have mC : MonC (CC P 11) := CC_mono _
  simp [fn_law, startE]
  obtain ⟨B, hB, b0, b1⟩ : ∃ B : Int, (if 2 < if (ns.length : Int) < 14 then (ns.length : Int) else 14 then if (ns.length : Int) < 14 then (ns.length : Int) else 14 else 2) = B ∧ 0 ≤ B ∧ B ≤ 14 := ⟨_, rfl, by split <;> split <;> omega, by split <;> split <;> omega⟩
  rw [hB, itD_range1 (by omega) (by omega)]
  simp
  refine ⟨by rw [sizeLine_eq]; omega, ?_⟩
  refine forB_ok mC (fun i st => ∃ v h', st = ⟨[.shr (.scr (ns.map D.int)), v], h'⟩) ⟨_, _, rfl⟩ ?_ ?_
  · rintro i x _ hi ⟨v, h1, rfl⟩
    have hil : i < B.toNat := by simpa using lt_of_get hi
    have ex : D.int i = x := by simpa [List.getElem?_map, List.getElem?_range hil] using hi
    subst ex
    simp
    refine callB_of (cell_ok (a := 250110119) (b := 8861) rfl (by decide) (by omega) (by omega) fun j => ?_)
    simp
    refine callB_of (box_ok rfl (by decide) fun h2 bx _ _ => ?_)
    simp
    refine callB_of (right_ok (by decide) bx (by decide) fun h3 => ?_)
    simp
    exact Rch_of ⟨_, _, rfl⟩
  · rintro _ ⟨v, h1, rfl⟩
    simp
end
end K07
end Mp
theorem PySem.Challenge.cw_oddfigures_k07_rows_judged_holds : PySem.Challenge.rw_oddfigures_k07_rows_judged.Holds :=
  K07_holds fun ns hl _ => Mp.K07.law_ok hl
