import PyProof.Rows.All
import Wide.All
import OpenK.AllK
import Wide.FinOn
import HandS.ForMost
import HandS.Wide
import HandS.Walk
import HandS.Zip
import HandS.Rev
import HandS.TupAny
import HandS.IsInst
import HandS.Deep
import HandS.SortInts
import HandS.Style
import HandS.Replace
import HandS.SortKw
import HandS.More
import HandS.NoneIn
import HandS.Conv
import PyProof.LongRange
import PyProof.FactsAll.str_3
import PyProof.FactsAll.str_4
import PyProof.FactsAll.list_3
import HandS.Codes
import HandS.Flow
import KE.GoesEnum
import KE.SortData
import PySem.Challenge.RW_nearcase_k63_whole_perfect_standings
set_option Elab.async false
set_option pp.maxSteps 500
set_option pp.deepTerms.threshold 6
set_option linter.all false
set_option maxRecDepth 100000
set_option maxHeartbeats 4000000
/-! Itp: immutable data D, owned lists O, a core form (E, S), its weakest preconditions (wpE, wpS), and the
    compilation of the given form to the core (compE, compS). -/
namespace Itp
open PySem

/-! ### data -/
/-- data that is never written again -/
inductive D where
  | non | bl (b : Bool) | int (i : Int) | str (s : Str) | lst (xs : List D) | tup (xs : List D) | ty (n : String)
  /-- the script: read by a slice alone -/
  | frz (xs : List D)
mutual
def D.py : D → PyData
  | .non => .none | .bl b => .bool b | .int i => .int i | .str s => .str s
  | .lst xs => .list (D.pyAll xs) | .tup xs => .tuple (D.pyAll xs) | .ty _ => .none | .frz _ => .none
def D.pyAll : List D → List PyData
  | [] => []
  | x :: xs => D.py x :: D.pyAll xs
end
mutual
/-- no type among its parts -/
def D.plain : D → Bool
  | .lst xs => D.plainAll xs | .tup xs => D.plainAll xs | .ty _ => false | .frz _ => false
  | .non => true | .bl _ => true | .int _ => true | .str _ => true
def D.plainAll : List D → Bool
  | [] => true
  | x :: xs => D.plain x && D.plainAll xs
end
def D.isNon : D → Bool
  | .non => true
  | _ => false
def D.isFrz : D → Bool
  | .frz _ => true
  | _ => false
/-- what == may be asked of -/
def D.ok (x : D) : Prop := x.plain = true ∧ SeqAt.shaped x.py = true

/-- what a variable holds: data; a list of its own (p: lent to this def by its caller); such a list while a loop walks it -/
inductive O where
  | d (x : D)
  | l (p : Bool) (xs : List D)
  | k (p : Bool) (xs : List D)
abbrev St := List (Option O)
/-- what an expression gives: a value; or the variable in slot i, as it will be -/
inductive R where
  | v (o : O)
  | r (i : Nat)

def oView : O → D
  | .d x => x
  | .l _ xs => .lst xs
  | .k _ xs => .lst xs
/-- to be read -/
def view : R → St → Option D
  | .v o, _ => some (oView o)
  | .r i, s => match s[i]? with
    | some (some o) => some (oView o)
    | _ => none
def viewAll : List R → St → Option (List D)
  | [], _ => some []
  | r :: rs, s => match view r s, viewAll rs s with
    | some x, some xs => some (x :: xs)
    | _, _ => none
/-- to be kept within something else: shared from then on -/
def froz : R → St → Option (D × St)
  | .v (.d x), s => some (x, s)
  | .v (.l _ xs), s => some (.lst xs, s)
  | .v (.k _ _), _ => none
  | .r i, s => match s[i]? with
    | some (some (.d x)) => some (x, s)
    | some (some (.l false xs)) => some (.lst xs, s.set i (some (.d (.lst xs))))
    | _ => none
def frozAll : List R → St → Option (List D × St)
  | [], s => some ([], s)
  | r :: rs, s => match froz r s with
    | some (x, s1) => match frozAll rs s1 with
      | some (xs, s2) => some (x :: xs, s2)
      | none => none
    | none => none
/-- to be handed to a def: shared, but for a list that was lent to this def itself -/
def fzo : R → St → Option (R × St)
  | .v o, s => match froz (.v o) s with
    | some (x, s1) => some (.v (.d x), s1)
    | none => none
  | .r i, s => match s[i]? with
    | some (some (.d x)) => some (.v (.d x), s)
    | some (some (.l false xs)) => some (.v (.d (.lst xs)), s.set i (some (.d (.lst xs))))
    | some (some (.l true _)) => some (.r i, s)
    | some (some (.k _ _)) => some (.r i, s)
    | _ => none
/-- to be stored at a name -/
def take : R → St → Option (O × St)
  | .v (.d x), s => some (.d x, s)
  | .v (.l _ xs), s => some (.l false xs, s)
  | .v (.k _ _), _ => none
  | .r i, s => match froz (.r i) s with
    | some (x, s1) => some (.d x, s1)
    | none => none
/-- to be handed back -/
def leave : R → St → Option (O × St)
  | .r i, s => match s[i]? with
    | some (some (.d x)) => some (.d x, s)
    | some (some (.l false xs)) => some (.l false xs, s.set i none)
    | _ => none
  | .v o, s => take (.v o) s

/-! ### targets -/
inductive Tg where
  | nm (i : Nat) | tp (t : Tg) | nil | cons (a b : Tg)
def put (i : Nat) (o : O) (s : St) : Option St := match s[i]? with
  | some none => some (s.set i (some o))
  | some (some (.d _)) => some (s.set i (some o))
  | some (some (.l false _)) => some (s.set i (some o))
  | some (some (.k false _)) => some (s.set i (some o))
  | _ => none
mutual
def setTg : Tg → D → St → Option St
  | .nm i, x, s => put i (.d x) s
  | .tp t, .tup xs, s => setTgs t xs s
  | .tp t, .lst xs, s => setTgs t xs s
  | _, _, _ => none
def setTgs : Tg → List D → St → Option St
  | .nil, [], s => some s
  | .cons a b, x :: xs, s => match setTg a x s with
    | some s1 => setTgs b xs s1
    | none => none
  | _, _, _ => none
end

/-! ### operations -/
def mulOk (i j : Int) : Prop := (-(2 ^ 64) < i ∧ i < 2 ^ 64) ∨ (-(2 ^ 64) < j ∧ j < 2 ^ 64) ∨ (i.natAbs < 2 ^ 8000 ∧ j.natAbs < 2 ^ 8000)
def divOk (j : Int) : Prop := 0 < j ∧ j.natAbs < 2 ^ 8000
abbrev line : Nat := 16777216
def binop (op : Operator) (x y : D) (Q : O → Prop) : Prop := match op, x, y with
  | .Add, .int i, .int j => Q (.d (.int (i + j)))
  | .Add, .str a, .str b => a.length + b.length ≤ line ∧ Q (.d (.str (a ++ b)))
  | .Add, .tup a, .tup b => a.length + b.length ≤ line ∧ Q (.d (.tup (a ++ b)))
  | .Add, .lst a, .lst b => a.length + b.length ≤ line ∧ Q (.l false (a ++ b))
  | .Sub, .int i, .int j => Q (.d (.int (i - j)))
  | .Mult, .int i, .int j => mulOk i j ∧ Q (.d (.int (i * j)))
  | .Mult, .str a, .int n => (0 ≤ n ∧ n ≤ line ∧ a.length * n.toNat ≤ line) ∧ Q (.d (.str (Txt.mul a n)))
  | .Mult, .lst a, .int n => (0 ≤ n ∧ n ≤ line ∧ a.length * n.toNat ≤ line) ∧ Q (.l false (List.replicate n.toNat a).flatten)
  | .FloorDiv, .int i, .int j => divOk j ∧ Q (.d (.int (i / j)))
  | .Mod, .int i, .int j => 0 < j ∧ Q (.d (.int (i % j)))
  | .Pow, .int i, .int j => (0 ≤ j ∧ j ≤ 1000000 ∧ i.natAbs < 2 ^ 64) ∧ Q (.d (.int (i ^ j.toNat)))
  | _, _, _ => False
/-- a op= b, of what is not changed in its place -/
def iop (op : Operator) (x y : D) (Q : O → Prop) : Prop := match op, x, y with
  | .Add, .int i, .int j => Q (.d (.int (i + j)))
  | .Add, .str a, .str b => a.length + b.length ≤ line ∧ Q (.d (.str (a ++ b)))
  | .Sub, .int i, .int j => Q (.d (.int (i - j)))
  | .Mult, .int i, .int j => ((-(2 ^ 64) < i ∧ i < 2 ^ 64) ∨ (-(2 ^ 64) < j ∧ j < 2 ^ 64)) ∧ Q (.d (.int (i * j)))
  | _, _, _ => False
def cmpop (op : CmpOp) (x y : D) (Q : Bool → Prop) : Prop := match op, x, y with
  | .Eq, .int i, .int j => Q (decide (i = j))
  | .Eq, .str a, .str b => Q (decide (a = b))
  | .NotEq, .int i, .int j => Q (!decide (i = j))
  | .NotEq, .str a, .str b => Q (!decide (a = b))
  | .Eq, x, y => x.ok ∧ y.ok ∧ Q (PyData.eqv x.py y.py)
  | .NotEq, x, y => x.ok ∧ y.ok ∧ Q (!PyData.eqv x.py y.py)
  | .Lt, .int i, .int j => Q (decide (i < j))
  | .LtE, .int i, .int j => Q (decide (i ≤ j))
  | .Gt, .int i, .int j => Q (decide (j < i))
  | .GtE, .int i, .int j => Q (decide (j ≤ i))
  | .Lt, .str i, .str j => Q (decide (i.cps.toList < j.cps.toList))
  | .LtE, .str i, .str j => Q (!decide (j.cps.toList < i.cps.toList))
  | .Gt, .str i, .str j => Q (decide (j.cps.toList < i.cps.toList))
  | .GtE, .str i, .str j => Q (!decide (i.cps.toList < j.cps.toList))
  | .Is, x, .non => Q x.isNon
  | .IsNot, x, .non => Q (!x.isNon)
  | .Is, .bl a, .bl b => Q (decide (a = b))
  | .IsNot, .bl a, .bl b => Q (!decide (a = b))
  | .In, x, .lst ys => x.ok ∧ (D.lst ys).ok ∧ Q ((D.pyAll ys).any fun y => PyData.eqv y x.py)
  | .NotIn, x, .lst ys => x.ok ∧ (D.lst ys).ok ∧ Q (!(D.pyAll ys).any fun y => PyData.eqv y x.py)
  | .In, .str x, .str y => ∃ c, x = ⟨#[c]⟩ ∧ Q (decide (c ∈ y.cps.toList))
  | .NotIn, .str x, .str y => ∃ c, x = ⟨#[c]⟩ ∧ Q (!decide (c ∈ y.cps.toList))
  | _, _, _ => False
/-- a value's truth -/
def truth (x : D) (Q : Bool → Prop) : Prop := match x with
  | .non => Q false
  | .bl b => Q b
  | .int i => Q (i != 0)
  | .str z => z.length ≤ line ∧ Q ((z.length : Int) != 0)
  | .lst xs => Q (!xs.isEmpty)
  | .tup xs => Q (!xs.isEmpty)
  | _ => False
def index (x y : D) (Q : D → Prop) : Prop := match x, y with
  | .lst xs, .int i => ∃ z, L2.atI xs i = some z ∧ Q z
  | .tup xs, .int i => ∃ z, L2.atI xs i = some z ∧ Q z
  | .str z, .int i => z.length ≤ line ∧ ∃ c, L2.atI z.cps.toList i = some c ∧ Q (.str ⟨#[c]⟩)
  | _, _ => False
def cut {α : Type} (xs : List α) (lo hi : Option Int) : List α := (xs.drop (HT.sIx xs.length 0 lo)).take (HT.sIx xs.length xs.length hi - HT.sIx xs.length 0 lo)
def slice (x : D) (lo hi : Option Int) (Q : O → Prop) : Prop := match x with
  | .lst xs => Q (.l false (cut xs lo hi))
  | .frz xs => Q (.l false (cut xs lo hi))
  | .tup xs => Q (.d (.tup (cut xs lo hi)))
  | .str z => z.length ≤ line ∧ Q (.d (.str (L2.cutS z lo hi)))
  | _ => False

def rangeD (lo : Int) (n : Nat) : List D := (List.range n).map fun k => .int (lo + (k : Nat))
def RgD (i j : Int) : Prop := -(2 ^ 62) ≤ i ∧ i < 2 ^ 62 ∧ -(2 ^ 62) ≤ j ∧ j < 2 ^ 62 ∧ (j - i).toNat ≤ 2 ^ 24
/-- built-in functions -/
inductive B where
  | len | abs | max | min | sum | all | any | int | str | list | tuple | repr
  /-- list(range(..)) -/
  | lrg
def intsOf : List D → Option (List Int)
  | [] => some []
  | .int i :: xs => (intsOf xs).map (i :: ·)
  | _ :: _ => none
def boolsOf : List D → Option (List Bool)
  | [] => some []
  | .bl i :: xs => (boolsOf xs).map (i :: ·)
  | _ :: _ => none
def strsOf : List D → Option (List Str)
  | [] => some []
  | .str i :: xs => (strsOf xs).map (i :: ·)
  | _ :: _ => none
def bltin (b : B) (xs : List D) (Q : O → Prop) : Prop := match b, xs with
  | .len, [.lst xs] => Q (.d (.int xs.length))
  | .len, [.tup xs] => Q (.d (.int xs.length))
  | .len, [.str z] => z.length ≤ line ∧ Q (.d (.int z.length))
  | .abs, [.int i] => Q (.d (.int (if i < 0 then -i else i)))
  | .max, [.int i, .int j] => Q (.d (.int (if j > i then j else i)))
  | .min, [.int i, .int j] => Q (.d (.int (if j < i then j else i)))
  | .max, [.lst xs] => ∃ ns, intsOf xs = some ns ∧ 0 < ns.length ∧ ∀ m, m ∈ ns → (∀ y, y ∈ ns → y ≤ m) → Q (.d (.int m))
  | .min, [.lst xs] => ∃ ns, intsOf xs = some ns ∧ 0 < ns.length ∧ ∀ m, m ∈ ns → (∀ y, y ∈ ns → m ≤ y) → Q (.d (.int m))
  | .sum, [.lst xs] => ∃ ns, intsOf xs = some ns ∧ Q (.d (.int ns.sum))
  | .all, [.lst xs] => ∃ bs, boolsOf xs = some bs ∧ Q (.d (.bl (bs.all id)))
  | .any, [.lst xs] => ∃ bs, boolsOf xs = some bs ∧ Q (.d (.bl (bs.any id)))
  | .int, [.int i] => Q (.d (.int i))
  | .int, [.bl k] => Q (.d (.int (if k then 1 else 0)))
  | .str, [.int i] => i.natAbs.log2 < 1920 ∧ Q (.d (.str (toString i)))
  | .list, [.lst xs] => Q (.l false xs)
  | .list, [.tup xs] => Q (.l false xs)
  | .tuple, [.lst xs] => Q (.d (.tup xs))
  | .tuple, [.tup xs] => Q (.d (.tup xs))
  | .repr, [x] => x.plain = true ∧ x.py.showable = true ∧ x.py.shown.length ≤ line ∧ x.py.depth ≤ 60 ∧ Q (.d (.str x.py.shown))
  | .lrg, [.int j] => RgD 0 j ∧ Q (.l false (rangeD 0 (j - 0).toNat))
  | .lrg, [.int i, .int j] => RgD i j ∧ Q (.l false (rangeD i (j - i).toNat))
  | _, _ => False
/-- methods that change nothing -/
inductive MP where
  | join | index | count
/-- whose method it is -/
def recv : MP → D → Bool
  | .join, .str _ => true
  | .index, .str _ => true
  | .count, .str _ => true
  | .index, .lst _ => true
  | _, _ => false
def methI (x : D) (as : List D) (Q : O → Prop) : Prop := match x, as with
  | .str z, [.str y] => ∃ i rest, Builtin.Str.occurrences z y 0 z.length 1 = i :: rest ∧ Q (.d (.int (i : Nat)))
  | .lst xs, [y] => (D.lst xs).ok ∧ y.ok ∧ ∃ (j : Nat) (z : D), xs[j]? = some z ∧ PyData.eqv z.py y.py = true ∧ (∀ (m : Nat) (z' : D), m < j → xs[m]? = some z' → PyData.eqv z'.py y.py = false) ∧ Q (.d (.int (j : Nat)))
  | _, _ => False
def methC (x : D) (as : List D) (Q : O → Prop) : Prop := match x, as with
  | .str z, [.str y] => Q (.d (.int (Txt.count z y)))
  | _, _ => False
def methJ (x : D) (as : List D) (Q : O → Prop) : Prop := match x, as with
  | .str z, [.lst xs] => ∃ ys, strsOf xs = some ys ∧ (ys.map (·.length)).sum + ys.length * z.length ≤ 16777216 ∧ Q (.d (.str (Txt.join z ys)))
  | .str z, [.tup xs] => ∃ ys, strsOf xs = some ys ∧ (ys.map (·.length)).sum + ys.length * z.length ≤ 16777216 ∧ Q (.d (.str (Txt.join z ys)))
  | _, _ => False
def meth (m : MP) (x : D) (as : List D) (Q : O → Prop) : Prop := match m with
  | .join => methJ x as Q
  | .index => methI x as Q
  | .count => methC x as Q
/-- methods of a list that change it: the list, the arguments; the answer, the new list -/
inductive MU where
  | append | pop | reverse | clear | extend | insert
def muta (m : MU) (xs : List D) (as : List D) (Q : D → List D → Prop) : Prop := match m, as with
  | .append, [x] => xs.length < line ∧ Q .non (xs ++ [x])
  | .pop, [] => ∃ x, xs[xs.length - 1]? = some x ∧ Q x xs.dropLast
  | .pop, [.int i] => (-(2 ^ 63) ≤ i ∧ i < 2 ^ 63) ∧ ∃ k x, seqIndex? i xs.length = some k ∧ xs[k]? = some x ∧ Q x (xs.eraseIdx k)
  | .reverse, [] => Q .non xs.reverse
  | .clear, [] => Q .non []
  | .extend, [.lst ys] => xs.length + ys.length ≤ line ∧ Q .non (xs ++ ys)
  | .insert, [.int i, y] => xs.length < line ∧ (0 ≤ i ∧ i < 2 ^ 63) ∧ Q .non (xs.take i.toNat ++ [y] ++ xs.drop i.toNat)
  | _, _ => False
/-- what may be sorted, and how it is -/
def SrtOk (xs : List D) : Prop := (∀ x ∈ xs, x.plain = true ∧ x.py.depth ≤ 50) ∧ PySem.W.AllAlike (xs.map D.py) ∧ PySem.W.Sortable (xs.map D.py) ∧ xs.length ≤ line
def srtD (xs : List D) : List D := xs.mergeSort (PySem.W.dataLe false D.py)
def srtR (xs : List D) : List D := xs.mergeSort (PySem.W.dataLe true D.py)
/-- type tests -/
def isTy (x : D) (t : String) (Q : Bool → Prop) : Prop := match x with
  | .non => Q (t == "NoneType")
  | .bl _ => Q (t == "bool" || t == "int")
  | .int _ => Q (t == "int")
  | .str _ => Q (t == "str")
  | .lst _ => Q (t == "list")
  | .tup _ => Q (t == "tuple")
  | _ => False

/-! ### what a for walks -/
inductive Src where
  | plain | range | rev | enum | zip
def enumD : Nat → List D → List D
  | _, [] => []
  | n, x :: xs => .tup [.int (n : Int), x] :: enumD (n + 1) xs
def zipD : List D → List D → List D
  | x :: xs, y :: ys => .tup [x, y] :: zipD xs ys
  | _, _ => []
def downD (lo : Int) (n : Nat) : List D := (List.range n).map fun k => .int (lo + (k : Nat) * (-1))
def items (k : Src) (xs : List D) (Q : List D → Prop) : Prop := match k, xs with
  | .plain, [.lst xs] => Q xs
  | .plain, [.tup xs] => Q xs
  | .plain, [.str z] => Q (z.cps.toList.map fun c => .str ⟨#[c]⟩)
  | .range, [.int j] => (-(2 ^ 62) ≤ j ∧ j < 2 ^ 62) ∧ Q (rangeD 0 j.toNat)
  | .range, [.int i, .int j] => Q (rangeD i (j - i).toNat)
  | .range, [.int i, .int j, .int c] => c = -1 ∧ (-(2 ^ 62) ≤ i ∧ i < 2 ^ 62 ∧ -(2 ^ 62) ≤ j ∧ j < 2 ^ 62) ∧ Q (downD i (i - j).toNat)
  | .rev, [.lst xs] => Q xs.reverse
  | .rev, [.tup xs] => Q xs.reverse
  | .enum, [.lst xs] => Q (enumD 0 xs)
  | .enum, [.tup xs] => Q (enumD 0 xs)
  | .zip, [.lst xs, .lst ys] => Q (zipD xs ys)
  | .zip, [.tup xs, .tup ys] => Q (zipD xs ys)
  | .zip, [.lst xs, .tup ys] => Q (zipD xs ys)
  | .zip, [.tup xs, .lst ys] => Q (zipD xs ys)
  | _, _ => False

/-! ### the core form -/
inductive E where
  | var (i : Nat) | cst (x : D) | bin (op : Operator) (a b : E) | neg (a : E) | not_ (a : E)
  | cmp (op : CmpOp) (a b : E) | chn (o1 o2 : CmpOp) (a b c : E) | and_ (a b : E) | or_ (a b : E) | ite (c a b : E)
  | nil | cons (a b : E) | tup (as : E) | lst (as : E) | idx (a b : E)
  | nop | slc (a lo hi : E) | rv (a : E)
  | call (f : Str) (as : E) | blt (b : B) (as : E) | isi (a : E) (t : String) | mth (m : MP) (o as : E) | chg (m : MU) (i : Nat) (as : E)
  | srt (a : E)
  | srr (a : E)
  /-- what an expression gives, shared from then on -/
  | fz (a : E)
  | comp (own : List Nat) (t : Tg) (k : Src) (as c e : E)
inductive S where
  | skip | seq (a b : S)
  | asg (t : Tg) (e : E) | par (i j : Nat) (a b : E) | set (o : Nat) (i e : E) | aug (i : Nat) (op : Operator) (e : E) | augs (o : Nat) (i : E) (op : Operator) (e : E)
  | ex (e : E) | ite (c : E) (a b : S) | for_ (t : Tg) (k : Src) (as : E) (b : S) | while_ (c : E) (b : S)
  | ret (e : E) | retn | brk | cnt | never
  /-- x = e, shared at once -/
  | asgd (i : Nat) (e : E)

/-! ### calls: arguments lent, written back -/
abbrev Ct := Str → List O → (O → List (Option O) → Prop) → Prop
def argO : R → St → Option O
  | .v (.d x), _ => some (.d x)
  | .v (.l _ xs), _ => some (.l false xs)
  | .v (.k _ _), _ => none
  | .r i, s => match s[i]? with
    | some (some (.d x)) => some (.d x)
    | some (some (.l _ xs)) => some (.l true xs)
    | some (some (.k _ xs)) => some (.k false xs)
    | _ => none
def args : List R → St → Option (List O)
  | [], _ => some []
  | r :: rs, s => match argO r s, args rs s with
    | some o, some os => some (o :: os)
    | _, _ => none
/-- the slots whose lists are lent -/
def lent : List R → St → List Nat
  | [], _ => []
  | .r i :: rs, s => match s[i]? with
    | some (some (.l _ _)) => i :: lent rs s
    | _ => lent rs s
  | .v _ :: rs, s => lent rs s
/-- the lists that were lent, as they come back (s0: the state at the call) -/
def back (s0 : St) : List R → List (Option O) → St → Option St
  | .r i :: rs, o :: os, s => match s0[i]? with
    | some (some (.l p _)) => match o with
      | some (.l true ys) => back s0 rs os (s.set i (some (.l p ys)))
      | _ => none
    | _ => back s0 rs os s
  | .v _ :: rs, _ :: os, s => back s0 rs os s
  | [], [], s => some s
  | _, _, _ => none

/-! ### loops -/
def lockAt (i : Nat) (s : St) : St := match s[i]? with
  | some (some (.l p xs)) => s.set i (some (.k p xs))
  | _ => s
def unlockAt (i : Nat) (s : St) : St := match s[i]? with
  | some (some (.k p xs)) => s.set i (some (.l p xs))
  | _ => s
def lock : List Nat → St → St
  | [], s => s
  | i :: is, s => lock is (lockAt i s)
def unlock : List Nat → St → St
  | [], s => s
  | i :: is, s => unlock is (unlockAt i s)
def wipe (s : St) : List Nat → St
  | [] => s
  | v :: vs => (wipe s vs).set v none
def mend (s0 : St) (s : St) : List Nat → St
  | [] => s
  | v :: vs => (mend s0 s vs).set v (s0[v]?.join)
structure En where
  nx : St → Prop
  rt : R → St → Prop
  bk : St → Prop := fun _ => False
  ct : St → Prop := fun _ => False
def forL (t : Tg) (body : En → St → Prop) (ul : St → St) (En : En) : List D → St → Prop
  | [], s => En.nx (ul s)
  | x :: xs, s => ∃ s1, setTg t x s = some s1 ∧
      body { nx := fun s2 => forL t body ul En xs s2, ct := fun s2 => forL t body ul En xs s2, bk := fun s2 => En.nx (ul s2), rt := fun r s2 => En.rt r (ul s2) } s1
def compL (t : Tg) (own : List Nat) (s0 : St) (cond : St → (Bool → St → Prop) → Prop) (elt : St → (R → St → Prop) → Prop) (ul : St → St) (Q : R → St → Prop) : List D → List D → St → Prop
  | [], acc, s => Q (.v (.l false acc)) (ul s)
  | x :: xs, acc, s => ∃ s1, setTg t x (wipe s own) = some s1 ∧ cond s1 fun b s2 =>
      if b = true then elt s2 fun r s3 => ∃ d s4, froz r s3 = some (d, s4) ∧ acc.length < line ∧ compL t own s0 cond elt ul Q xs (acc ++ [d]) (mend s0 s4 own)
      else compL t own s0 cond elt ul Q xs acc (mend s0 s2 own)

/-! ### weakest preconditions -/
section
variable (C : Ct)
mutual
def wpE : E → St → (R → St → Prop) → Prop
  | .var i, s, Q => match s[i]? with
    | some (some (.d x)) => Q (.v (.d x)) s
    | some (some _) => Q (.r i) s
    | _ => False
  | .cst x, s, Q => Q (.v (.d x)) s
  | .bin op a b, s, Q => wpE a s fun ra s1 => wpE b s1 fun rb s2 => ∃ x y, view ra s2 = some x ∧ view rb s2 = some y ∧ binop op x y fun z => Q (.v z) s2
  | .neg a, s, Q => wpE a s fun ra s1 => ∃ i, view ra s1 = some (.int i) ∧ Q (.v (.d (.int (-i)))) s1
  | .not_ a, s, Q => wpE a s fun ra s1 => ∃ b, view ra s1 = some (.bl b) ∧ Q (.v (.d (.bl (!b)))) s1
  | .cmp op a b, s, Q => wpE a s fun ra s1 => wpE b s1 fun rb s2 => ∃ x y, view ra s2 = some x ∧ view rb s2 = some y ∧ cmpop op x y fun z => Q (.v (.d (.bl z))) s2
  | .chn o1 o2 a b c, s, Q => wpE a s fun ra s1 => wpE b s1 fun rb s2 => ∃ x y, view ra s2 = some x ∧ view rb s2 = some y ∧ cmpop o1 x y fun z =>
      if z = true then wpE c s2 fun rc s3 => ∃ y' w, view rb s3 = some y' ∧ view rc s3 = some w ∧ cmpop o2 y' w fun z2 => Q (.v (.d (.bl z2))) s3 else Q (.v (.d (.bl false))) s2
  | .and_ a b, s, Q => wpE a s fun ra s1 => ∃ c, view ra s1 = some (.bl c) ∧ if c = true then wpE b s1 Q else Q (.v (.d (.bl false))) s1
  | .or_ a b, s, Q => wpE a s fun ra s1 => ∃ c, view ra s1 = some (.bl c) ∧ if c = true then Q (.v (.d (.bl true))) s1 else wpE b s1 Q
  | .ite c a b, s, Q => wpT c s fun k s1 => if k = true then wpE a s1 Q else wpE b s1 Q
  | .tup as, s, Q => wpA as s fun rs s1 => ∃ xs s2, frozAll rs s1 = some (xs, s2) ∧ xs.length ≤ line ∧ Q (.v (.d (.tup xs))) s2
  | .lst as, s, Q => wpA as s fun rs s1 => ∃ xs s2, frozAll rs s1 = some (xs, s2) ∧ xs.length ≤ line ∧ Q (.v (.l false xs)) s2
  | .idx a b, s, Q => wpE a s fun ra s1 => wpE b s1 fun rb s2 => ∃ x y, view ra s2 = some x ∧ view rb s2 = some y ∧ index x y fun z => Q (.v (.d z)) s2
  | .slc a lo hi, s, Q => wpE a s fun ra s1 => wpO lo s1 fun l s2 => wpO hi s2 fun h s3 => ∃ x, view ra s3 = some x ∧ slice x l h fun z => Q (.v z) s3
  | .rv a, s, Q => wpE a s fun ra s1 => ∃ xs, view ra s1 = some (.lst xs) ∧ Q (.v (.l false xs.reverse)) s1
  | .call f as, s, Q => wpA as s fun rs s1 => ∃ os, args rs s1 = some os ∧ (lent rs s1).Nodup ∧ C f os fun res fin => ∃ s2, back s1 rs fin s1 = some s2 ∧ Q (.v res) s2
  | .blt b as, s, Q => wpA as s fun rs s1 => ∃ xs, viewAll rs s1 = some xs ∧ bltin b xs fun z => Q (.v z) s1
  | .isi a t, s, Q => wpE a s fun ra s1 => ∃ x, view ra s1 = some x ∧ isTy x t fun z => Q (.v (.d (.bl z))) s1
  | .mth m o as, s, Q => wpE o s fun ro s1 => ∃ x0, view ro s1 = some x0 ∧ recv m x0 = true ∧ wpA as s1 fun rs s2 => ∃ x xs, view ro s2 = some x ∧ viewAll rs s2 = some xs ∧ meth m x xs fun z => Q (.v z) s2
  | .chg m i as, s, Q => (∃ p xs, s[i]? = some (some (.l p xs))) ∧ wpA as s fun rs s1 => ∃ ds s2, frozAll rs s1 = some (ds, s2) ∧ ∃ p xs, s2[i]? = some (some (.l p xs)) ∧ muta m xs ds fun x ys => Q (.v (.d x)) (s2.set i (some (.l p ys)))
  | .srt a, s, Q => wpE a s fun ra s1 => ∃ xs, view ra s1 = some (.lst xs) ∧ SrtOk xs ∧ Q (.v (.l false (srtD xs))) s1
  | .srr a, s, Q => wpE a s fun ra s1 => ∃ xs, view ra s1 = some (.lst xs) ∧ SrtOk xs ∧ Q (.v (.l false (srtR xs))) s1
  | .fz a, s, Q => wpE a s fun ra s1 => ∃ x s2, fzo ra s1 = some (x, s2) ∧ Q x s2
  | .comp own t k as c e, s, Q => wpA as s fun rs s1 => ∃ ds, viewAll rs s1 = some ds ∧ items k ds fun xs =>
      compL t own (lock (lent rs s1) s1) (fun s Q => wpT c s Q) (fun s Q => wpE e s Q) (unlock (lent rs s1)) Q xs [] (lock (lent rs s1) s1)
  | .nil, _, _ => False
  | .cons _ _, _, _ => False
  | .nop, _, _ => False
def wpT : E → St → (Bool → St → Prop) → Prop
  | .ite c a b, s, Q => wpT c s fun k s1 => if k = true then wpT a s1 Q else wpT b s1 Q
  | .cmp op a b, s, Q => wpE a s fun ra s1 => wpE b s1 fun rb s2 => ∃ x y, view ra s2 = some x ∧ view rb s2 = some y ∧ cmpop op x y fun z => Q z s2
  | .chn o1 o2 a b c, s, Q => wpE a s fun ra s1 => wpE b s1 fun rb s2 => ∃ x y, view ra s2 = some x ∧ view rb s2 = some y ∧ cmpop o1 x y fun z =>
      if z = true then wpE c s2 fun rc s3 => ∃ y' w, view rb s3 = some y' ∧ view rc s3 = some w ∧ cmpop o2 y' w fun z2 => Q z2 s3 else Q false s2
  | .and_ a b, s, Q => wpT a s fun c s1 => if c = true then wpT b s1 Q else Q false s1
  | .or_ a b, s, Q => wpT a s fun c s1 => if c = true then Q true s1 else wpT b s1 Q
  | .not_ a, s, Q => wpT a s fun c s1 => Q (!c) s1
  | .nop, s, Q => Q true s
  | .cst (.bl b), s, Q => Q b s
  | .fz _, _, _ => False
  | e, s, Q => wpE e s fun r s1 => ∃ x, view r s1 = some x ∧ truth x fun k => Q k s1
def wpA : E → St → (List R → St → Prop) → Prop
  | .nil, s, Q => Q [] s
  | .cons a b, s, Q => wpE a s fun r s1 => wpA b s1 fun rs s2 => Q (r :: rs) s2
  | _, _, _ => False
def wpO : E → St → (Option Int → St → Prop) → Prop
  | .nop, s, Q => Q none s
  | e, s, Q => wpE e s fun r s1 => ∃ i, view r s1 = some (.int i) ∧ Q (some i) s1
end
def wpS : S → En → St → Prop
  | .skip, D, s => D.nx s
  | .seq a b, D, s => wpS a { D with nx := fun s1 => wpS b D s1 } s
  | .asg (.nm i) e, D, s => wpE C e s fun r s1 => ∃ o s2 s3, take r s1 = some (o, s2) ∧ put i o s2 = some s3 ∧ D.nx s3
  | .asg t e, D, s => wpE C e s fun r s1 => ∃ x s2 s3, froz r s1 = some (x, s2) ∧ setTg t x s2 = some s3 ∧ D.nx s3
  | .par i j a b, D, s => wpE C a s fun ra s1 => wpE C b s1 fun rb s2 => ∃ x y s3 s4, take ra s2 = some (x, s3) ∧ take rb s3 = some (y, s4) ∧ ∃ s5 s6, put i x s4 = some s5 ∧ put j y s5 = some s6 ∧ D.nx s6
  | .set o i e, D, s => wpE C e s fun r s1 => (∃ p xs, s1[o]? = some (some (.l p xs))) ∧ wpE C i s1 fun ri s2 => ∃ x s3, froz r s2 = some (x, s3) ∧ ∃ k p xs j, view ri s3 = some (.int k) ∧ s3[o]? = some (some (.l p xs)) ∧ L2.ixN xs.length k = some j ∧ D.nx (s3.set o (some (.l p (xs.set j x))))
  | .aug i op e, D, s => ∃ x, s[i]? = some (some (.d x)) ∧ wpE C e s fun r s1 => ∃ y, view r s1 = some y ∧ iop op x y fun z => ∃ s2, put i z s1 = some s2 ∧ D.nx s2
  | .augs o i op e, D, s => (∃ p xs, s[o]? = some (some (.l p xs))) ∧ wpE C i s fun ri s1 => ∃ k p xs x, view ri s1 = some (.int k) ∧ s1[o]? = some (some (.l p xs)) ∧ L2.atI xs k = some x ∧
      wpE C e s1 fun r s2 => ∃ y, view r s2 = some y ∧ iop op x y fun z => ∃ w p ys j, z = .d w ∧ s2[o]? = some (some (.l p ys)) ∧ L2.ixN ys.length k = some j ∧ D.nx (s2.set o (some (.l p (ys.set j w))))
  | .ex e, D, s => wpE C e s fun _ s1 => D.nx s1
  | .ite c a b, D, s => wpT C c s fun k s1 => if k = true then wpS a D s1 else wpS b D s1
  | .for_ t k as b, D, s => wpA C as s fun rs s1 => ∃ ds, viewAll rs s1 = some ds ∧ items k ds fun xs => forL t (fun D s => wpS b D s) (unlock (lent rs s1)) D xs (lock (lent rs s1) s1)
  | .while_ c b, D, s => ∃ W : Nat → St → Prop, (∃ m, W m s) ∧ ∀ m s, W m s → wpT C c s fun k s1 => if k = true then
      wpS b { D with nx := fun s2 => ∃ m', m' < m ∧ W m' s2, ct := fun s2 => ∃ m', m' < m ∧ W m' s2, bk := D.nx } s1 else D.nx s1
  | .ret e, D, s => wpE C e s D.rt
  | .retn, D, s => D.rt (.v (.d .non)) s
  | .brk, D, s => D.bk s
  | .cnt, D, s => D.ct s
  | .never, _, _ => False
  | .asgd i e, D, s => wpE C e s fun r s1 => ∃ x s2 s3, froz r s1 = some (x, s2) ∧ put i (.d x) s2 = some s3 ∧ D.nx s3
end
/-- a def: how many parameters, how many slots, its body -/
structure Fn where
  np : Nat
  nn : Nat
  body : S
abbrev Tab := Str → Option Fn
def start (F : Fn) (os : List O) : St := os.map some ++ List.replicate (F.nn - F.np) none
def endsOf (F : Fn) (Q : O → List (Option O) → Prop) : En where
  nx := fun s => Q (.d .non) (s.take F.np)
  rt := fun r s => ∃ o s2, leave r s = some (o, s2) ∧ Q o (s2.take F.np)
/-- a call, of at most so many defs within one another -/
def call (T : Tab) : Nat → Ct
  | 0, _, _, _ => False
  | k + 1, f, os, Q => ∃ F, T f = some F ∧ os.length = F.np ∧ wpS (call T k) F.body (endsOf F Q) (start F os)
end Itp

namespace Itp
open PySem

/-! ### the operations, at a weaker end -/
theorem binop_mono {op : Operator} {x y : D} {Q Q' : O → Prop} (h : ∀ z, Q z → Q' z) (w : binop op x y Q) : binop op x y Q' := by
  unfold binop at w ⊢
  split at w <;> first | exact w.elim | exact h _ w | exact ⟨w.1, h _ w.2⟩
theorem iop_mono {op : Operator} {x y : D} {Q Q' : O → Prop} (h : ∀ z, Q z → Q' z) (w : iop op x y Q) : iop op x y Q' := by
  unfold iop at w ⊢
  split at w <;> first | exact w.elim | exact h _ w | exact ⟨w.1, h _ w.2⟩
theorem cmpop_mono {op : CmpOp} {x y : D} {Q Q' : Bool → Prop} (h : ∀ z, Q z → Q' z) (w : cmpop op x y Q) : cmpop op x y Q' := by
  unfold cmpop at w ⊢
  split at w <;> first | exact w.elim | exact h _ w | exact ⟨w.1, h _ w.2⟩ | exact ⟨w.1, w.2.1, h _ w.2.2⟩ | (obtain ⟨c, e, q⟩ := w; exact ⟨c, e, h _ q⟩)
theorem truth_mono {x : D} {Q Q' : Bool → Prop} (h : ∀ z, Q z → Q' z) (w : truth x Q) : truth x Q' := by
  unfold truth at w ⊢
  split at w <;> first | exact w.elim | exact h _ w | exact ⟨w.1, h _ w.2⟩
theorem index_mono {x y : D} {Q Q' : D → Prop} (h : ∀ z, Q z → Q' z) (w : index x y Q) : index x y Q' := by
  unfold index at w ⊢
  split at w <;> first | exact w.elim | (obtain ⟨z, e, q⟩ := w; exact ⟨z, e, h _ q⟩) | (obtain ⟨l, z, e, q⟩ := w; exact ⟨l, z, e, h _ q⟩)
theorem slice_mono {x : D} {lo hi : Option Int} {Q Q' : O → Prop} (h : ∀ z, Q z → Q' z) (w : slice x lo hi Q) : slice x lo hi Q' := by
  unfold slice at w ⊢
  split at w <;> first | exact w.elim | exact h _ w | exact ⟨w.1, h _ w.2⟩
theorem bltin_mono {b : B} {xs : List D} {Q Q' : O → Prop} (h : ∀ z, Q z → Q' z) (w : bltin b xs Q) : bltin b xs Q' := by
  unfold bltin at w ⊢
  split at w <;> first | exact w.elim | exact h _ w | exact ⟨w.1, h _ w.2⟩ | exact ⟨w.1, w.2.1, w.2.2.1, w.2.2.2.1, h _ w.2.2.2.2⟩ | (obtain ⟨ns, e, p, q⟩ := w; exact ⟨ns, e, p, fun m a b => h _ (q m a b)⟩) | (obtain ⟨ns, e, q⟩ := w; exact ⟨ns, e, h _ q⟩)
theorem meth_mono {m : MP} {x : D} {as : List D} {Q Q' : O → Prop} (h : ∀ z, Q z → Q' z) (w : meth m x as Q) : meth m x as Q' := by
  cases m with
  | join =>
    simp only [meth] at w ⊢
    unfold methJ at w ⊢
    split at w <;> first | exact w.elim | (obtain ⟨ys, e, l, q⟩ := w; exact ⟨ys, e, l, h _ q⟩)
  | index =>
    simp only [meth] at w ⊢
    unfold methI at w ⊢
    split at w <;> first | exact w.elim | (obtain ⟨ys, e, l, q⟩ := w; exact ⟨ys, e, l, h _ q⟩) | (obtain ⟨o1, o2, j, z, e1, e2, e3, q⟩ := w; exact ⟨o1, o2, j, z, e1, e2, e3, h _ q⟩)
  | count =>
    simp only [meth] at w ⊢
    unfold methC at w ⊢
    split at w <;> first | exact w.elim | exact h _ w
theorem muta_mono {m : MU} {xs as : List D} {Q Q' : D → List D → Prop} (h : ∀ z ys, Q z ys → Q' z ys) (w : muta m xs as Q) : muta m xs as Q' := by
  unfold muta at w ⊢
  split at w <;> first | exact w.elim | exact h _ _ w | exact ⟨w.1, h _ _ w.2⟩ | exact ⟨w.1, w.2.1, h _ _ w.2.2⟩ | (obtain ⟨x, e, q⟩ := w; exact ⟨x, e, h _ _ q⟩) | (obtain ⟨b, k, x, e, f, q⟩ := w; exact ⟨b, k, x, e, f, h _ _ q⟩)
theorem isTy_mono {x : D} {t : String} {Q Q' : Bool → Prop} (h : ∀ z, Q z → Q' z) (w : isTy x t Q) : isTy x t Q' := by
  unfold isTy at w ⊢
  split at w <;> first | exact w.elim | exact h _ w
theorem items_mono {k : Src} {xs : List D} {Q Q' : List D → Prop} (h : ∀ z, Q z → Q' z) (w : items k xs Q) : items k xs Q' := by
  unfold items at w ⊢
  split at w <;> first | exact w.elim | exact h _ w | exact ⟨w.1, h _ w.2⟩ | exact ⟨w.1, w.2.1, h _ w.2.2⟩

theorem compL_mono {t : Tg} {own : List Nat} {s0 : St} {cond : St → (Bool → St → Prop) → Prop} {elt : St → (R → St → Prop) → Prop} {ul : St → St} {Q Q' : R → St → Prop}
    (hc : ∀ s Q Q', (∀ b s, Q b s → Q' b s) → cond s Q → cond s Q') (he : ∀ s Q Q', (∀ b s, Q b s → Q' b s) → elt s Q → elt s Q') (h : ∀ r s, Q r s → Q' r s) :
    ∀ xs acc s, compL t own s0 cond elt ul Q xs acc s → compL t own s0 cond elt ul Q' xs acc s
  | [], acc, s, w => by unfold compL at *; exact h _ _ w
  | x :: xs, acc, s, w => by
    unfold compL at *
    obtain ⟨s1, e, w⟩ := w
    refine ⟨s1, e, hc _ _ _ (fun b s2 w => ?_) w⟩
    cases b with
    | true =>
      rw [if_pos rfl] at *
      refine he _ _ _ (fun r s3 w => ?_) w
      obtain ⟨d, s4, e, l, w⟩ := w
      exact ⟨d, s4, e, l, compL_mono hc he h xs _ _ w⟩
    | false =>
      rw [if_neg Bool.false_ne_true] at *
      exact compL_mono hc he h xs _ _ w

/-- a call, at a weaker end -/
def CtMono (C : Ct) : Prop := ∀ f os (Q Q' : O → List (Option O) → Prop), (∀ r l, Q r l → Q' r l) → C f os Q → C f os Q'
section
variable {C : Ct} (hC : CtMono C)
include hC
/-- all four at once -/
theorem wp_mono : ∀ e : E, (∀ s (Q Q' : R → St → Prop), (∀ r s, Q r s → Q' r s) → wpE C e s Q → wpE C e s Q') ∧ (∀ s (Q Q' : Bool → St → Prop), (∀ r s, Q r s → Q' r s) → wpT C e s Q → wpT C e s Q') ∧
    (∀ s (Q Q' : List R → St → Prop), (∀ r s, Q r s → Q' r s) → wpA C e s Q → wpA C e s Q') ∧ (∀ s (Q Q' : Option Int → St → Prop), (∀ r s, Q r s → Q' r s) → wpO C e s Q → wpO C e s Q') := by
  -- the default forms of a test, of a bound
  have dT : ∀ e : E, (∀ s (Q Q' : R → St → Prop), (∀ r s, Q r s → Q' r s) → wpE C e s Q → wpE C e s Q') → ∀ s (Q Q' : Bool → St → Prop), (∀ r s, Q r s → Q' r s) →
      (wpE C e s fun r s1 => ∃ x, view r s1 = some x ∧ truth x fun k => Q k s1) → wpE C e s fun r s1 => ∃ x, view r s1 = some x ∧ truth x fun k => Q' k s1 := by
    intro e he s Q Q' h w
    exact he _ _ _ (fun r s1 ⟨x, a, b⟩ => ⟨x, a, truth_mono (fun k q => h _ _ q) b⟩) w
  have dO : ∀ e : E, (∀ s (Q Q' : R → St → Prop), (∀ r s, Q r s → Q' r s) → wpE C e s Q → wpE C e s Q') → ∀ s (Q Q' : Option Int → St → Prop), (∀ r s, Q r s → Q' r s) →
      (wpE C e s fun r s1 => ∃ i, view r s1 = some (.int i) ∧ Q (some i) s1) → wpE C e s fun r s1 => ∃ i, view r s1 = some (.int i) ∧ Q' (some i) s1 := by
    intro e he s Q Q' h w
    exact he _ _ _ (fun r s1 ⟨x, a, b⟩ => ⟨x, a, h _ _ b⟩) w
  intro e
  induction e with
  | nil => exact ⟨fun _ _ _ _ w => by simp only [wpE] at w, fun _ _ _ _ w => by simp only [wpT, wpE] at w; first | exact w.elim | done, fun _ _ _ h w => by simp only [wpA] at w ⊢; exact h _ _ w, fun _ _ _ _ w => by simp only [wpO, wpE] at w; first | exact w.elim | done⟩
  | nop => exact ⟨fun _ _ _ _ w => by simp only [wpE] at w, fun _ _ _ h w => by simp only [wpT] at w ⊢; exact h _ _ w, fun _ _ _ h w => by simp only [wpA] at w; first | exact w.elim | done, fun _ _ _ h w => by simp only [wpO] at w ⊢; exact h _ _ w⟩
  | cons a b iha ihb =>
    refine ⟨fun _ _ _ _ w => by simp only [wpE] at w, fun _ _ _ _ w => by simp only [wpT, wpE] at w; first | exact w.elim | done, fun _ _ _ h w => ?_, fun _ _ _ _ w => by simp only [wpO, wpE] at w; first | exact w.elim | done⟩
    simp only [wpA] at w ⊢
    exact iha.1 _ _ _ (fun r s1 w => ihb.2.2.1 _ _ _ (fun rs s2 w => h _ _ w) w) w
  | var i =>
    have he : ∀ s (Q Q' : R → St → Prop), (∀ r s, Q r s → Q' r s) → wpE C (.var i) s Q → wpE C (.var i) s Q' := by
      intro s Q Q' h w
      simp only [wpE] at w ⊢
      split at w <;> simp_all
    exact ⟨he, fun s Q Q' h w => by simp only [wpT] at w ⊢; exact dT _ he s Q Q' h w, fun _ _ _ h w => by simp only [wpA] at w; first | exact w.elim | done, fun s Q Q' h w => by simp only [wpO] at w ⊢; exact dO _ he s Q Q' h w⟩
  | cst x =>
    have he : ∀ s (Q Q' : R → St → Prop), (∀ r s, Q r s → Q' r s) → wpE C (.cst x) s Q → wpE C (.cst x) s Q' := by
      intro s Q Q' h w
      simp only [wpE] at w ⊢
      exact h _ _ w
    refine ⟨he, fun s Q Q' h w => ?_, fun _ _ _ h w => by simp only [wpA] at w; first | exact w.elim | done, fun s Q Q' h w => by simp only [wpO] at w ⊢; exact dO _ he s Q Q' h w⟩
    cases x <;> (simp only [wpT] at w ⊢) <;> first | exact h _ _ w | exact dT _ he s Q Q' h w
  | bin op a b iha ihb =>
    have he : ∀ s (Q Q' : R → St → Prop), (∀ r s, Q r s → Q' r s) → wpE C (.bin op a b) s Q → wpE C (.bin op a b) s Q' := by
      intro s Q Q' h w
      simp only [wpE] at w ⊢
      exact iha.1 _ _ _ (fun r s1 w => ihb.1 _ _ _ (fun rs s2 ⟨x, y, e1, e2, w⟩ => ⟨x, y, e1, e2, binop_mono (fun z q => h _ _ q) w⟩) w) w
    exact ⟨he, fun s Q Q' h w => by simp only [wpT] at w ⊢; exact dT _ he s Q Q' h w, fun _ _ _ h w => by simp only [wpA] at w; first | exact w.elim | done, fun s Q Q' h w => by simp only [wpO] at w ⊢; exact dO _ he s Q Q' h w⟩
  | neg a iha =>
    have he : ∀ s (Q Q' : R → St → Prop), (∀ r s, Q r s → Q' r s) → wpE C (.neg a) s Q → wpE C (.neg a) s Q' := by
      intro s Q Q' h w
      simp only [wpE] at w ⊢
      exact iha.1 _ _ _ (fun r s1 ⟨i, e, w⟩ => ⟨i, e, h _ _ w⟩) w
    exact ⟨he, fun s Q Q' h w => by simp only [wpT] at w ⊢; exact dT _ he s Q Q' h w, fun _ _ _ h w => by simp only [wpA] at w; first | exact w.elim | done, fun s Q Q' h w => by simp only [wpO] at w ⊢; exact dO _ he s Q Q' h w⟩
  | not_ a iha =>
    have he : ∀ s (Q Q' : R → St → Prop), (∀ r s, Q r s → Q' r s) → wpE C (.not_ a) s Q → wpE C (.not_ a) s Q' := by
      intro s Q Q' h w
      simp only [wpE] at w ⊢
      exact iha.1 _ _ _ (fun r s1 ⟨i, e, w⟩ => ⟨i, e, h _ _ w⟩) w
    exact ⟨he, fun s Q Q' h w => by simp only [wpT] at w ⊢; exact iha.2.1 _ _ _ (fun r s1 w => h _ _ w) w, fun _ _ _ h w => by simp only [wpA] at w; first | exact w.elim | done, fun s Q Q' h w => by simp only [wpO] at w ⊢; exact dO _ he s Q Q' h w⟩
  | cmp op a b iha ihb =>
    have he : ∀ s (Q Q' : R → St → Prop), (∀ r s, Q r s → Q' r s) → wpE C (.cmp op a b) s Q → wpE C (.cmp op a b) s Q' := by
      intro s Q Q' h w
      simp only [wpE] at w ⊢
      exact iha.1 _ _ _ (fun r s1 w => ihb.1 _ _ _ (fun rs s2 ⟨x, y, e1, e2, w⟩ => ⟨x, y, e1, e2, cmpop_mono (fun z q => h _ _ q) w⟩) w) w
    refine ⟨he, fun s Q Q' h w => ?_, fun _ _ _ h w => by simp only [wpA] at w; first | exact w.elim | done, fun s Q Q' h w => by simp only [wpO] at w ⊢; exact dO _ he s Q Q' h w⟩
    simp only [wpT] at w ⊢
    exact iha.1 _ _ _ (fun r s1 w => ihb.1 _ _ _ (fun rs s2 ⟨x, y, e1, e2, w⟩ => ⟨x, y, e1, e2, cmpop_mono (fun z q => h _ _ q) w⟩) w) w
  | chn o1 o2 a b c iha ihb ihc =>
    have he : ∀ s (Q Q' : R → St → Prop), (∀ r s, Q r s → Q' r s) → wpE C (.chn o1 o2 a b c) s Q → wpE C (.chn o1 o2 a b c) s Q' := by
      intro s Q Q' h w
      simp only [wpE] at w ⊢
      refine iha.1 _ _ _ (fun r s1 w => ihb.1 _ _ _ (fun rs s2 ⟨x, y, e1, e2, w⟩ => ⟨x, y, e1, e2, cmpop_mono (fun z q => ?_) w⟩) w) w
      cases z with
      | true => rw [if_pos rfl] at q ⊢; exact ihc.1 _ _ _ (fun rc s3 ⟨y', w', e1, e2, w⟩ => ⟨y', w', e1, e2, cmpop_mono (fun z q => h _ _ q) w⟩) q
      | false => rw [if_neg Bool.false_ne_true] at q ⊢; exact h _ _ q
    refine ⟨he, fun s Q Q' h w => ?_, fun _ _ _ h w => by simp only [wpA] at w; first | exact w.elim | done, fun s Q Q' h w => by simp only [wpO] at w ⊢; exact dO _ he s Q Q' h w⟩
    simp only [wpT] at w ⊢
    refine iha.1 _ _ _ (fun r s1 w => ihb.1 _ _ _ (fun rs s2 ⟨x, y, e1, e2, w⟩ => ⟨x, y, e1, e2, cmpop_mono (fun z q => ?_) w⟩) w) w
    cases z with
    | true => rw [if_pos rfl] at q ⊢; exact ihc.1 _ _ _ (fun rc s3 ⟨y', w', e1, e2, w⟩ => ⟨y', w', e1, e2, cmpop_mono (fun z q => h _ _ q) w⟩) q
    | false => rw [if_neg Bool.false_ne_true] at q ⊢; exact h _ _ q
  | and_ a b iha ihb =>
    have he : ∀ s (Q Q' : R → St → Prop), (∀ r s, Q r s → Q' r s) → wpE C (.and_ a b) s Q → wpE C (.and_ a b) s Q' := by
      intro s Q Q' h w
      simp only [wpE] at w ⊢
      refine iha.1 _ _ _ (fun r s1 ⟨c, e, w⟩ => ⟨c, e, ?_⟩) w
      cases c with
      | true => rw [if_pos rfl] at w ⊢; exact ihb.1 _ _ _ h w
      | false => rw [if_neg Bool.false_ne_true] at w ⊢; exact h _ _ w
    refine ⟨he, fun s Q Q' h w => ?_, fun _ _ _ h w => by simp only [wpA] at w; first | exact w.elim | done, fun s Q Q' h w => by simp only [wpO] at w ⊢; exact dO _ he s Q Q' h w⟩
    simp only [wpT] at w ⊢
    refine iha.2.1 _ _ _ (fun c s1 w => ?_) w
    cases c with
    | true => rw [if_pos rfl] at w ⊢; exact ihb.2.1 _ _ _ h w
    | false => rw [if_neg Bool.false_ne_true] at w ⊢; exact h _ _ w
  | or_ a b iha ihb =>
    have he : ∀ s (Q Q' : R → St → Prop), (∀ r s, Q r s → Q' r s) → wpE C (.or_ a b) s Q → wpE C (.or_ a b) s Q' := by
      intro s Q Q' h w
      simp only [wpE] at w ⊢
      refine iha.1 _ _ _ (fun r s1 ⟨c, e, w⟩ => ⟨c, e, ?_⟩) w
      cases c with
      | true => rw [if_pos rfl] at w ⊢; exact h _ _ w
      | false => rw [if_neg Bool.false_ne_true] at w ⊢; exact ihb.1 _ _ _ h w
    refine ⟨he, fun s Q Q' h w => ?_, fun _ _ _ h w => by simp only [wpA] at w; first | exact w.elim | done, fun s Q Q' h w => by simp only [wpO] at w ⊢; exact dO _ he s Q Q' h w⟩
    simp only [wpT] at w ⊢
    refine iha.2.1 _ _ _ (fun c s1 w => ?_) w
    cases c with
    | true => rw [if_pos rfl] at w ⊢; exact h _ _ w
    | false => rw [if_neg Bool.false_ne_true] at w ⊢; exact ihb.2.1 _ _ _ h w
  | ite c a b ihc iha ihb =>
    have he : ∀ s (Q Q' : R → St → Prop), (∀ r s, Q r s → Q' r s) → wpE C (.ite c a b) s Q → wpE C (.ite c a b) s Q' := by
      intro s Q Q' h w
      simp only [wpE] at w ⊢
      refine ihc.2.1 _ _ _ (fun k s1 w => ?_) w
      cases k with
      | true => rw [if_pos rfl] at w ⊢; exact iha.1 _ _ _ h w
      | false => rw [if_neg Bool.false_ne_true] at w ⊢; exact ihb.1 _ _ _ h w
    refine ⟨he, fun s Q Q' h w => ?_, fun _ _ _ h w => by simp only [wpA] at w, fun s Q Q' h w => by simp only [wpO] at w ⊢; exact dO _ he s Q Q' h w⟩
    simp only [wpT] at w ⊢
    refine ihc.2.1 _ _ _ (fun k s1 w => ?_) w
    cases k with
    | true => rw [if_pos rfl] at w ⊢; exact iha.2.1 _ _ _ h w
    | false => rw [if_neg Bool.false_ne_true] at w ⊢; exact ihb.2.1 _ _ _ h w
  | tup as ih =>
    have he : ∀ s (Q Q' : R → St → Prop), (∀ r s, Q r s → Q' r s) → wpE C (.tup as) s Q → wpE C (.tup as) s Q' := by
      intro s Q Q' h w
      simp only [wpE] at w ⊢
      exact ih.2.2.1 _ _ _ (fun r s1 ⟨x, s2, e, l, w⟩ => ⟨x, s2, e, l, h _ _ w⟩) w
    exact ⟨he, fun s Q Q' h w => by simp only [wpT] at w ⊢; exact dT _ he s Q Q' h w, fun _ _ _ h w => by simp only [wpA] at w; first | exact w.elim | done, fun s Q Q' h w => by simp only [wpO] at w ⊢; exact dO _ he s Q Q' h w⟩
  | lst as ih =>
    have he : ∀ s (Q Q' : R → St → Prop), (∀ r s, Q r s → Q' r s) → wpE C (.lst as) s Q → wpE C (.lst as) s Q' := by
      intro s Q Q' h w
      simp only [wpE] at w ⊢
      exact ih.2.2.1 _ _ _ (fun r s1 ⟨x, s2, e, l, w⟩ => ⟨x, s2, e, l, h _ _ w⟩) w
    exact ⟨he, fun s Q Q' h w => by simp only [wpT] at w ⊢; exact dT _ he s Q Q' h w, fun _ _ _ h w => by simp only [wpA] at w; first | exact w.elim | done, fun s Q Q' h w => by simp only [wpO] at w ⊢; exact dO _ he s Q Q' h w⟩
  | idx a b iha ihb =>
    have he : ∀ s (Q Q' : R → St → Prop), (∀ r s, Q r s → Q' r s) → wpE C (.idx a b) s Q → wpE C (.idx a b) s Q' := by
      intro s Q Q' h w
      simp only [wpE] at w ⊢
      exact iha.1 _ _ _ (fun r s1 w => ihb.1 _ _ _ (fun rs s2 ⟨x, y, e1, e2, w⟩ => ⟨x, y, e1, e2, index_mono (fun z q => h _ _ q) w⟩) w) w
    exact ⟨he, fun s Q Q' h w => by simp only [wpT] at w ⊢; exact dT _ he s Q Q' h w, fun _ _ _ h w => by simp only [wpA] at w; first | exact w.elim | done, fun s Q Q' h w => by simp only [wpO] at w ⊢; exact dO _ he s Q Q' h w⟩
  | slc a lo hi iha ihl ihh =>
    have he : ∀ s (Q Q' : R → St → Prop), (∀ r s, Q r s → Q' r s) → wpE C (.slc a lo hi) s Q → wpE C (.slc a lo hi) s Q' := by
      intro s Q Q' h w
      simp only [wpE] at w ⊢
      exact iha.1 _ _ _ (fun r s1 w => ihl.2.2.2 _ _ _ (fun l s2 w => ihh.2.2.2 _ _ _ (fun u s3 ⟨x, e1, w⟩ => ⟨x, e1, slice_mono (fun z q => h _ _ q) w⟩) w) w) w
    exact ⟨he, fun s Q Q' h w => by simp only [wpT] at w ⊢; exact dT _ he s Q Q' h w, fun _ _ _ h w => by simp only [wpA] at w; first | exact w.elim | done, fun s Q Q' h w => by simp only [wpO] at w ⊢; exact dO _ he s Q Q' h w⟩
  | rv a iha =>
    have he : ∀ s (Q Q' : R → St → Prop), (∀ r s, Q r s → Q' r s) → wpE C (.rv a) s Q → wpE C (.rv a) s Q' := by
      intro s Q Q' h w
      simp only [wpE] at w ⊢
      exact iha.1 _ _ _ (fun r s1 ⟨i, e, w⟩ => ⟨i, e, h _ _ w⟩) w
    exact ⟨he, fun s Q Q' h w => by simp only [wpT] at w ⊢; exact dT _ he s Q Q' h w, fun _ _ _ h w => by simp only [wpA] at w; first | exact w.elim | done, fun s Q Q' h w => by simp only [wpO] at w ⊢; exact dO _ he s Q Q' h w⟩
  | call f as ih =>
    have he : ∀ s (Q Q' : R → St → Prop), (∀ r s, Q r s → Q' r s) → wpE C (.call f as) s Q → wpE C (.call f as) s Q' := by
      intro s Q Q' h w
      simp only [wpE] at w ⊢
      exact ih.2.2.1 _ _ _ (fun r s1 ⟨os, e, n, w⟩ => ⟨os, e, n, hC _ _ _ _ (fun res fin ⟨s2, e2, q⟩ => ⟨s2, e2, h _ _ q⟩) w⟩) w
    exact ⟨he, fun s Q Q' h w => by simp only [wpT] at w ⊢; exact dT _ he s Q Q' h w, fun _ _ _ h w => by simp only [wpA] at w; first | exact w.elim | done, fun s Q Q' h w => by simp only [wpO] at w ⊢; exact dO _ he s Q Q' h w⟩
  | blt b as ih =>
    have he : ∀ s (Q Q' : R → St → Prop), (∀ r s, Q r s → Q' r s) → wpE C (.blt b as) s Q → wpE C (.blt b as) s Q' := by
      intro s Q Q' h w
      simp only [wpE] at w ⊢
      exact ih.2.2.1 _ _ _ (fun r s1 ⟨xs, e, w⟩ => ⟨xs, e, bltin_mono (fun z q => h _ _ q) w⟩) w
    exact ⟨he, fun s Q Q' h w => by simp only [wpT] at w ⊢; exact dT _ he s Q Q' h w, fun _ _ _ h w => by simp only [wpA] at w; first | exact w.elim | done, fun s Q Q' h w => by simp only [wpO] at w ⊢; exact dO _ he s Q Q' h w⟩
  | isi a t iha =>
    have he : ∀ s (Q Q' : R → St → Prop), (∀ r s, Q r s → Q' r s) → wpE C (.isi a t) s Q → wpE C (.isi a t) s Q' := by
      intro s Q Q' h w
      simp only [wpE] at w ⊢
      exact iha.1 _ _ _ (fun r s1 ⟨i, e, w⟩ => ⟨i, e, isTy_mono (fun z q => h _ _ q) w⟩) w
    exact ⟨he, fun s Q Q' h w => by simp only [wpT] at w ⊢; exact dT _ he s Q Q' h w, fun _ _ _ h w => by simp only [wpA] at w; first | exact w.elim | done, fun s Q Q' h w => by simp only [wpO] at w ⊢; exact dO _ he s Q Q' h w⟩
  | mth m o as iho ih =>
    have he : ∀ s (Q Q' : R → St → Prop), (∀ r s, Q r s → Q' r s) → wpE C (.mth m o as) s Q → wpE C (.mth m o as) s Q' := by
      intro s Q Q' h w
      simp only [wpE] at w ⊢
      exact iho.1 _ _ _ (fun r s1 ⟨x0, e0, rc, w⟩ => ⟨x0, e0, rc, ih.2.2.1 _ _ _ (fun rs s2 ⟨x, y, e1, e2, w⟩ => ⟨x, y, e1, e2, meth_mono (fun z q => h _ _ q) w⟩) w⟩) w
    exact ⟨he, fun s Q Q' h w => by simp only [wpT] at w ⊢; exact dT _ he s Q Q' h w, fun _ _ _ h w => by simp only [wpA] at w; first | exact w.elim | done, fun s Q Q' h w => by simp only [wpO] at w ⊢; exact dO _ he s Q Q' h w⟩
  | chg m i as ih =>
    have he : ∀ s (Q Q' : R → St → Prop), (∀ r s, Q r s → Q' r s) → wpE C (.chg m i as) s Q → wpE C (.chg m i as) s Q' := by
      intro s Q Q' h w
      simp only [wpE] at w ⊢
      exact ⟨w.1, ih.2.2.1 _ _ _ (fun r s1 ⟨ds, s2, e, p, xs, e2, w⟩ => ⟨ds, s2, e, p, xs, e2, muta_mono (fun z ys q => h _ _ q) w⟩) w.2⟩
    exact ⟨he, fun s Q Q' h w => by simp only [wpT] at w ⊢; exact dT _ he s Q Q' h w, fun _ _ _ h w => by simp only [wpA] at w; first | exact w.elim | done, fun s Q Q' h w => by simp only [wpO] at w ⊢; exact dO _ he s Q Q' h w⟩
  | srt a iha =>
    have he : ∀ s (Q Q' : R → St → Prop), (∀ r s, Q r s → Q' r s) → wpE C (.srt a) s Q → wpE C (.srt a) s Q' := by
      intro s Q Q' h w
      simp only [wpE] at w ⊢
      exact iha.1 _ _ _ (fun r s1 ⟨xs, e, ok, w⟩ => ⟨xs, e, ok, h _ _ w⟩) w
    exact ⟨he, fun s Q Q' h w => by simp only [wpT] at w ⊢; exact dT _ he s Q Q' h w, fun _ _ _ h w => by simp only [wpA] at w; first | exact w.elim | done, fun s Q Q' h w => by simp only [wpO] at w ⊢; exact dO _ he s Q Q' h w⟩
  | srr a iha =>
    have he : ∀ s (Q Q' : R → St → Prop), (∀ r s, Q r s → Q' r s) → wpE C (.srr a) s Q → wpE C (.srr a) s Q' := by
      intro s Q Q' h w
      simp only [wpE] at w ⊢
      exact iha.1 _ _ _ (fun r s1 ⟨xs, e, ok, w⟩ => ⟨xs, e, ok, h _ _ w⟩) w
    exact ⟨he, fun s Q Q' h w => by simp only [wpT] at w ⊢; exact dT _ he s Q Q' h w, fun _ _ _ h w => by simp only [wpA] at w; first | exact w.elim | done, fun s Q Q' h w => by simp only [wpO] at w ⊢; exact dO _ he s Q Q' h w⟩
  | fz a iha =>
    have he : ∀ s (Q Q' : R → St → Prop), (∀ r s, Q r s → Q' r s) → wpE C (.fz a) s Q → wpE C (.fz a) s Q' := by
      intro s Q Q' h w
      simp only [wpE] at w ⊢
      exact iha.1 _ _ _ (fun r s1 ⟨x, s2, e, q⟩ => ⟨x, s2, e, h _ _ q⟩) w
    exact ⟨he, fun s Q Q' h w => by simp only [wpT] at w, fun _ _ _ h w => by simp only [wpA] at w; first | exact w.elim | done, fun s Q Q' h w => by simp only [wpO] at w ⊢; exact dO _ he s Q Q' h w⟩
  | comp own t k as c e ih ihc ihe =>
    have he : ∀ s (Q Q' : R → St → Prop), (∀ r s, Q r s → Q' r s) → wpE C (.comp own t k as c e) s Q → wpE C (.comp own t k as c e) s Q' := by
      intro s Q Q' h w
      simp only [wpE] at w ⊢
      exact ih.2.2.1 _ _ _ (fun r s1 ⟨ds, e, w⟩ => ⟨ds, e, items_mono (fun xs w => compL_mono (cond := fun s Q => wpT C c s Q) (elt := fun s Q => wpE C _ s Q) (fun s Q Q' h w => ihc.2.1 _ _ _ h w) (fun s Q Q' h w => ihe.1 _ _ _ h w) h _ _ _ w) w⟩) w
    exact ⟨he, fun s Q Q' h w => by simp only [wpT] at w ⊢; exact dT _ he s Q Q' h w, fun _ _ _ h w => by simp only [wpA] at w; first | exact w.elim | done, fun s Q Q' h w => by simp only [wpO] at w ⊢; exact dO _ he s Q Q' h w⟩
theorem wpE_mono {e : E} {s : St} {Q Q' : R → St → Prop} (w : wpE C e s Q) (h : ∀ r s, Q r s → Q' r s) : wpE C e s Q' := (wp_mono hC e).1 s Q Q' h w
theorem wpT_mono {e : E} {s : St} {Q Q' : Bool → St → Prop} (w : wpT C e s Q) (h : ∀ r s, Q r s → Q' r s) : wpT C e s Q' := (wp_mono hC e).2.1 s Q Q' h w
theorem wpA_mono {e : E} {s : St} {Q Q' : List R → St → Prop} (w : wpA C e s Q) (h : ∀ r s, Q r s → Q' r s) : wpA C e s Q' := (wp_mono hC e).2.2.1 s Q Q' h w
theorem wpO_mono {e : E} {s : St} {Q Q' : Option Int → St → Prop} (w : wpO C e s Q) (h : ∀ r s, Q r s → Q' r s) : wpO C e s Q' := (wp_mono hC e).2.2.2 s Q Q' h w
/-- ends, weaker -/
structure En.Le (D D' : En) : Prop where
  nx : ∀ s, D.nx s → D'.nx s
  rt : ∀ r s, D.rt r s → D'.rt r s
  bk : ∀ s, D.bk s → D'.bk s
  ct : ∀ s, D.ct s → D'.ct s
omit hC in
theorem forL_mono {t : Tg} {body : En → St → Prop} {ul : St → St} (hb : ∀ D D' s, En.Le D D' → body D s → body D' s) {D D' : En} (h : En.Le D D') : ∀ xs s, forL t body ul D xs s → forL t body ul D' xs s
  | [], s, w => by simp only [forL] at w ⊢; exact h.nx _ w
  | x :: xs, s, w => by
    simp only [forL] at w ⊢
    obtain ⟨s1, e, w⟩ := w
    refine ⟨s1, e, hb _ _ _ ?_ w⟩
    exact ⟨fun _ q => forL_mono hb h xs _ q, fun _ _ q => h.rt _ _ q, fun _ q => h.nx _ q, fun _ q => forL_mono hb h xs _ q⟩
theorem wpS_mono : ∀ (b : S) (D D' : En) (s : St), En.Le D D' → wpS C b D s → wpS C b D' s := by
  intro b
  induction b with
  | skip => intro D D' s h w; simp only [wpS] at w ⊢; exact h.nx _ w
  | seq a b iha ihb => intro D D' s h w; simp only [wpS] at w ⊢; refine iha _ _ _ ?_ w; exact ⟨fun _ q => ihb _ _ _ h q, h.rt, h.bk, h.ct⟩
  | asg t e =>
    intro D D' s h w
    cases t <;> (simp only [wpS] at w ⊢) <;> first
      | exact wpE_mono hC w fun r s1 ⟨o, s2, s3, e1, e2, q⟩ => ⟨o, s2, s3, e1, e2, h.nx _ q⟩
      | exact wpE_mono hC w fun r s1 ⟨x, s2, s3, e1, e2, q⟩ => ⟨x, s2, s3, e1, e2, h.nx _ q⟩
  | par i j a b =>
    intro D D' s h w; simp only [wpS] at w ⊢
    exact wpE_mono hC w fun r s1 w => wpE_mono hC w fun r2 s2 ⟨x, y, s3, s4, e1, e2, s5, s6, e3, e4, q⟩ => ⟨x, y, s3, s4, e1, e2, s5, s6, e3, e4, h.nx _ q⟩
  | set o i e =>
    intro D D' s h w; simp only [wpS] at w ⊢
    exact wpE_mono hC w fun r s1 ⟨hb, w⟩ => ⟨hb, wpE_mono hC w fun r2 s2 ⟨x, s3, e1, k, p, xs, j, e2, e3, e4, q⟩ => ⟨x, s3, e1, k, p, xs, j, e2, e3, e4, h.nx _ q⟩⟩
  | aug i op e =>
    intro D D' s h w; simp only [wpS] at w ⊢
    obtain ⟨x, e, w⟩ := w
    exact ⟨x, e, wpE_mono hC w fun r s1 ⟨y, e1, w⟩ => ⟨y, e1, iop_mono (fun z ⟨s2, e2, q⟩ => ⟨s2, e2, h.nx _ q⟩) w⟩⟩
  | augs o i op e =>
    intro D D' s h w; simp only [wpS] at w ⊢
    exact ⟨w.1, wpE_mono hC w.2 fun r s1 ⟨k, p, xs, x, e1, e2, e3, w⟩ => ⟨k, p, xs, x, e1, e2, e3, wpE_mono hC w fun r2 s2 ⟨y, e4, w⟩ => ⟨y, e4, iop_mono (fun z ⟨w', p', ys, j, e5, e6, e7, q⟩ => ⟨w', p', ys, j, e5, e6, e7, h.nx _ q⟩) w⟩⟩⟩
  | ex e => intro D D' s h w; simp only [wpS] at w ⊢; exact wpE_mono hC w fun r s1 q => h.nx _ q
  | ite c a b iha ihb =>
    intro D D' s h w; simp only [wpS] at w ⊢
    refine wpT_mono hC w fun k s1 w => ?_
    cases k with
    | true => rw [if_pos rfl] at w ⊢; exact iha _ _ _ h w
    | false => rw [if_neg Bool.false_ne_true] at w ⊢; exact ihb _ _ _ h w
  | for_ t k as b ih =>
    intro D D' s h w; simp only [wpS] at w ⊢
    exact wpA_mono hC w fun rs s1 ⟨ds, e, w⟩ => ⟨ds, e, items_mono (fun xs w => forL_mono (body := fun D s => wpS C b D s) (fun D D' s h w => ih _ _ _ h w) h _ _ w) w⟩
  | while_ c b ih =>
    intro D D' s h w; simp only [wpS] at w ⊢
    obtain ⟨W, m, w⟩ := w
    refine ⟨W, m, fun m s hw => wpT_mono hC (w m s hw) fun k s1 w => ?_⟩
    cases k with
    | true => rw [if_pos rfl] at w ⊢; refine ih _ _ _ ?_ w; exact ⟨fun _ q => q, h.rt, h.nx, fun _ q => q⟩
    | false => rw [if_neg Bool.false_ne_true] at w ⊢; exact h.nx _ w
  | ret e => intro D D' s h w; simp only [wpS] at w ⊢; exact wpE_mono hC w fun r s1 q => h.rt _ _ q
  | retn => intro D D' s h w; simp only [wpS] at w ⊢; exact h.rt _ _ w
  | brk => intro D D' s h w; simp only [wpS] at w ⊢; exact h.bk _ w
  | cnt => intro D D' s h w; simp only [wpS] at w ⊢; exact h.ct _ w
  | never => intro D D' s h w; simp only [wpS] at w
  | asgd i e => intro D D' s h w; simp only [wpS] at w ⊢; exact wpE_mono hC w fun r s1 ⟨o, s2, s3, e1, e2, q⟩ => ⟨o, s2, s3, e1, e2, h.nx _ q⟩
end
theorem call_mono (T : Tab) : ∀ k, CtMono (call T k)
  | 0 => fun _ _ _ _ _ w => by simp only [call] at w; first | exact w.elim | done
  | k + 1 => fun f os Q Q' h w => by
    simp only [call] at w ⊢
    obtain ⟨F, e, l, w⟩ := w
    refine ⟨F, e, l, wpS_mono (call_mono T k) _ _ _ _ ?_ w⟩
    exact ⟨fun _ q => h _ _ q, fun _ _ ⟨o, s2, e, q⟩ => ⟨o, s2, e, h _ _ q⟩, fun _ q => q.elim, fun _ q => q.elim⟩
end Itp

namespace Itp
open PySem
open L2 (V Hp HO upd upd_same upd_ne ne_of ne_of_none Same)

/-- the module's own objects -/
class KF where
  k : PySem.W.Frag
variable [KF]
/-! ### data in a heap -/
mutual
def Sh (H : Hp) : D → V → Prop
  | .non, v => v = .non
  | .bl b, v => v = .bl b
  | .int i, v => v = .int i
  | .str s, v => v = .str s
  | .ty n, v => v = .ty n
  | .lst xs, v => ∃ a vs, v = .ref a ∧ H a = some (.lst vs) ∧ ShA H xs vs
  | .tup xs, v => ∃ a vs, v = .ref a ∧ H a = some (.tup vs) ∧ ShA H xs vs
  | .frz xs, v => ∃ a vs, v = .ref a ∧ L2.SqL KF.k H a vs ∧ ShA H xs vs
def ShA (H : Hp) : List D → List V → Prop
  | [], vs => vs = []
  | x :: xs, vs => ∃ v r, vs = v :: r ∧ Sh H x v ∧ ShA H xs r
end
mutual
theorem Sh.mono {H H' : Hp} (m : Same H H') : ∀ {x : D} {v : V}, Sh H x v → Sh H' x v
  | .non, _, h => h
  | .bl _, _, h => h
  | .int _, _, h => h
  | .str _, _, h => h
  | .ty _, _, h => h
  | .lst xs, _, h => by
    obtain ⟨a, vs, e, q, r⟩ := h
    exact ⟨a, vs, e, m _ _ q, ShA.mono m r⟩
  | .tup xs, _, h => by
    obtain ⟨a, vs, e, q, r⟩ := h
    exact ⟨a, vs, e, m _ _ q, ShA.mono m r⟩
  | .frz xs, _, h => by
    obtain ⟨a, vs, e, q, r⟩ := h
    exact ⟨a, vs, e, L2.Same.seq m q, ShA.mono m r⟩
theorem ShA.mono {H H' : Hp} (m : Same H H') : ∀ {xs : List D} {vs : List V}, ShA H xs vs → ShA H' xs vs
  | [], _, h => h
  | x :: xs, _, h => by
    obtain ⟨v, r, e, q, t⟩ := h
    exact ⟨v, r, e, Sh.mono m q, ShA.mono m t⟩
end
section
variable {H : Hp}
theorem ShA.nil : ShA H [] [] := rfl
theorem ShA.cons {x : D} {v : V} {xs : List D} {vs : List V} (a : Sh H x v) (b : ShA H xs vs) : ShA H (x :: xs) (v :: vs) := ⟨v, vs, rfl, a, b⟩
theorem ShA.len : ∀ {xs : List D} {vs : List V}, ShA H xs vs → xs.length = vs.length
  | [], _, h => by cases (show _ = [] from h); rfl
  | x :: xs, _, h => by
    obtain ⟨v, r, e, _, t⟩ := h
    subst e
    simp [ShA.len t]
theorem ShA.get : ∀ {xs : List D} {vs : List V} {i : Nat} {x : D}, ShA H xs vs → xs[i]? = some x → ∃ v, vs[i]? = some v ∧ Sh H x v
  | [], _, _, _, _, e => by simp at e
  | x :: xs, _, 0, _, h, e => by
    obtain ⟨v, r, e2, q, t⟩ := h
    subst e2
    simp at e; subst e
    exact ⟨v, rfl, q⟩
  | x :: xs, _, i + 1, y, h, e => by
    obtain ⟨v, r, e2, q, t⟩ := h
    subst e2
    obtain ⟨w, a, b⟩ := ShA.get (i := i) (x := y) t (by simpa using e)
    exact ⟨w, by simpa using a, b⟩
theorem ShA.of : ∀ {xs : List D} {vs : List V}, xs.length = vs.length → (∀ (i : Nat) x v, xs[i]? = some x → vs[i]? = some v → Sh H x v) → ShA H xs vs
  | [], [], _, _ => rfl
  | [], _ :: _, e, _ => by simp at e
  | _ :: _, [], e, _ => by simp at e
  | x :: xs, v :: vs, e, h => ⟨v, vs, rfl, h 0 x v rfl rfl, ShA.of (by simpa using e) fun i y w a b => h (i + 1) y w (by simpa using a) (by simpa using b)⟩
theorem ShA.at {xs : List D} {vs : List V} (h : ShA H xs vs) {i : Nat} {x : D} {v : V} (a : xs[i]? = some x) (b : vs[i]? = some v) : Sh H x v := by
  obtain ⟨w, e, q⟩ := h.get a
  rw [b] at e; cases e; exact q
theorem ShA.app {xs ys : List D} {vs ws : List V} (h : ShA H xs vs) (k : ShA H ys ws) : ShA H (xs ++ ys) (vs ++ ws) := by
  have e1 := h.len
  have e2 := k.len
  refine ShA.of (by simp [e1, e2]) fun i x v a b => ?_
  by_cases hi : i < xs.length
  · rw [List.getElem?_append_left hi] at a
    rw [List.getElem?_append_left (by omega)] at b
    exact h.at a b
  · rw [List.getElem?_append_right (by omega)] at a
    rw [List.getElem?_append_right (by omega)] at b
    exact k.at a (by rw [e1]; exact b)
theorem ShA.drop {xs : List D} {vs : List V} (h : ShA H xs vs) (n : Nat) : ShA H (xs.drop n) (vs.drop n) := by
  have e1 := h.len
  refine ShA.of (by simp [e1]) fun i x v a b => ?_
  rw [List.getElem?_drop] at a b
  exact h.at a b
theorem ShA.take {xs : List D} {vs : List V} (h : ShA H xs vs) (n : Nat) : ShA H (xs.take n) (vs.take n) := by
  have e1 := h.len
  refine ShA.of (by simp [e1]) fun i x v a b => ?_
  rw [List.getElem?_take] at a b
  split at a
  · rw [if_pos (by assumption)] at b; exact h.at a b
  · cases a
theorem ShA.rev {xs : List D} {vs : List V} (h : ShA H xs vs) : ShA H xs.reverse vs.reverse := by
  have e1 := h.len
  refine ShA.of (by simp [e1]) fun i x v a b => ?_
  have hi : i < xs.length := by
    have := (List.getElem?_eq_some_iff.mp a).1
    simpa using this
  rw [List.getElem?_reverse hi] at a
  rw [List.getElem?_reverse (by omega)] at b
  exact h.at a (by rw [e1]; exact b)
theorem ShA.set {xs : List D} {vs : List V} (h : ShA H xs vs) (j : Nat) {x : D} {v : V} (q : Sh H x v) : ShA H (xs.set j x) (vs.set j v) := by
  have e1 := h.len
  refine ShA.of (by simp [e1]) fun i y w a b => ?_
  rw [List.getElem?_set] at a b
  split at a
  · rename_i hij
    subst hij
    rw [if_pos rfl] at b
    split at a
    · rw [if_pos (by omega)] at b; cases a; cases b; exact q
    · cases a
  · rename_i hij
    rw [if_neg hij] at b
    exact h.at a b
theorem ShA.dropLast {xs : List D} {vs : List V} (h : ShA H xs vs) : ShA H xs.dropLast vs.dropLast := by
  rw [List.dropLast_eq_take, List.dropLast_eq_take, h.len]
  exact h.take _
theorem ShA.erase {xs : List D} {vs : List V} (h : ShA H xs vs) (n : Nat) : ShA H (xs.eraseIdx n) (vs.eraseIdx n) := by
  rw [List.eraseIdx_eq_take_drop_succ, List.eraseIdx_eq_take_drop_succ]
  exact (h.take n).app (h.drop (n + 1))
theorem ShA.cut {xs : List D} {vs : List V} (h : ShA H xs vs) (lo hi : Option Int) : ShA H (cut xs lo hi) (L2.cutV vs lo hi) := by
  unfold Itp.cut L2.cutV
  rw [h.len]
  exact (h.drop _).take _
theorem ShA.ints : ∀ (xs : List D) (vs : List V) (ns : List Int), ShA H xs vs → intsOf xs = some ns → vs = ns.map V.int
  | [], _, ns, h, e => by
    cases (show _ = [] from h)
    simp only [intsOf, Option.some.injEq] at e
    subst e
    rfl
  | x :: xs, _, ns, h, e => by
    obtain ⟨v, r, e2, q, t⟩ := h
    subst e2
    cases x with
    | int i =>
      have q : v = V.int i := q
      subst q
      simp only [intsOf, Option.map_eq_some_iff] at e
      obtain ⟨ms, e3, e4⟩ := e
      subst e4
      rw [ShA.ints xs r ms t e3]
      rfl
    | _ => simp [intsOf] at e
theorem ShA.ofInts (ns : List Int) : ShA H (ns.map D.int) (ns.map V.int) := by
  refine ShA.of (by simp) fun i x v a b => ?_
  rw [List.getElem?_map] at a b
  cases e : ns[i]? with
  | none => rw [e] at a; cases a
  | some n => rw [e] at a b; cases a; cases b; rfl
theorem ShA.bools : ∀ (xs : List D) (vs : List V) (ns : List Bool), ShA H xs vs → boolsOf xs = some ns → vs = ns.map V.bl
  | [], _, ns, h, e => by
    cases (show _ = [] from h)
    simp only [boolsOf, Option.some.injEq] at e
    subst e
    rfl
  | x :: xs, _, ns, h, e => by
    obtain ⟨v, r, e2, q, t⟩ := h
    subst e2
    cases x with
    | bl i =>
      have q : v = V.bl i := q
      subst q
      simp only [boolsOf, Option.map_eq_some_iff] at e
      obtain ⟨ms, e3, e4⟩ := e
      subst e4
      rw [ShA.bools xs r ms t e3]
      rfl
    | _ => simp [boolsOf] at e
theorem ShA.strs : ∀ (xs : List D) (vs : List V) (ns : List Str), ShA H xs vs → strsOf xs = some ns → vs = ns.map V.str
  | [], _, ns, h, e => by
    cases (show _ = [] from h)
    simp only [strsOf, Option.some.injEq] at e
    subst e
    rfl
  | x :: xs, _, ns, h, e => by
    obtain ⟨v, r, e2, q, t⟩ := h
    subst e2
    cases x with
    | str i =>
      have q : v = V.str i := q
      subst q
      simp only [strsOf, Option.map_eq_some_iff] at e
      obtain ⟨ms, e3, e4⟩ := e
      subst e4
      rw [ShA.strs xs r ms t e3]
      rfl
    | _ => simp [strsOf] at e
end

/-! ### what is held by a variable, by a result -/
def held : O → Bool
  | .d _ => false
  | .l _ _ => true
  | .k _ _ => true
def Rep (Hs H : Hp) (v : V) : O → Prop
  | .d x => Sh Hs x v
  | .l _ xs => ∃ a vs, v = .ref a ∧ H a = some (.lst vs) ∧ ShA Hs xs vs ∧ Hs a = none
  | .k _ xs => ∃ a vs, v = .ref a ∧ H a = some (.lst vs) ∧ ShA Hs xs vs ∧ Hs a = none
/-- a variable's own list stands at a -/
def Own (σ : L2.St) (st : St) (a : Addr) : Prop := ∃ (i : Nat) (p : Bool) (xs : List D), st[i]? = some (some (.l p xs)) ∧ σ[i]? = some (some (.ref a))
def Hel (σ : L2.St) (st : St) (a : Addr) : Prop := ∃ (i : Nat) (o : O), st[i]? = some (some o) ∧ held o = true ∧ σ[i]? = some (some (.ref a))
structure Ok (σ : L2.St) (st : St) (Hs H : Hp) : Prop where
  len : st.length = σ.length
  sub : Same Hs H
  rep : ∀ (i : Nat) (o : O), st[i]? = some (some o) → ∃ v, σ[i]? = some (some v) ∧ Rep Hs H v o
  inj : ∀ (i j : Nat) (p : Bool) (xs : List D) (o : O) (a : Addr), st[i]? = some (some (.l p xs)) → st[j]? = some (some o) → held o = true → σ[i]? = some (some (.ref a)) → σ[j]? = some (some (.ref a)) → i = j
/-- what a step may change -/
structure Fr (σ : L2.St) (st : St) (Hs H : Hp) (σ' : L2.St) (st' : St) (Hs' H' : Hp) : Prop where
  sub : Same Hs Hs'
  keep : ∀ a o, H a = some o → ¬ Own σ st a → H' a = some o
  dom : ∀ a, H' a = none → H a = none
  own : ∀ a, Own σ' st' a → Own σ st a ∨ H a = none
  shr : ∀ a, Hs a = none → ¬ Own σ st a → H a ≠ none → Hs' a = none
  kk : ∀ (i : Nat) (p : Bool) (xs : List D), st'[i]? = some (some (.k p xs)) → st[i]? = some (some (.k p xs)) ∧ σ'[i]? = σ[i]?
  kp : ∀ (i : Nat) (xs : List D), st[i]? = some (some (.k true xs)) → st'[i]? = some (some (.k true xs)) ∧ σ'[i]? = σ[i]?
  lp : ∀ (i : Nat) (xs : List D), st[i]? = some (some (.l true xs)) → ∃ ys, st'[i]? = some (some (.l true ys)) ∧ σ'[i]? = σ[i]?
  bd : ∀ (i : Nat) (o : O), st[i]? = some (some o) → ∃ o', st'[i]? = some (some o')
  sz : st'.length = st.length
section
variable {σ σ1 σ2 : L2.St} {st st1 st2 : St} {Hs H Hs1 H1 Hs2 H2 : Hp}
theorem Own.hel {a : Addr} (h : Own σ st a) : Hel σ st a := by
  obtain ⟨i, p, xs, e, q⟩ := h
  exact ⟨i, _, e, rfl, q⟩
theorem Ok.own_at (k : Ok σ st Hs H) {a : Addr} (h : Hel σ st a) : (∃ vs, H a = some (.lst vs)) ∧ Hs a = none := by
  obtain ⟨i, o, e, hh, q⟩ := h
  obtain ⟨v, e2, r⟩ := k.rep i o e
  rw [q] at e2; cases e2
  cases o with
  | d x => cases hh
  | l p xs => obtain ⟨b, vs, e3, h1, _, h2⟩ := r; cases e3; exact ⟨⟨vs, h1⟩, h2⟩
  | k p xs => obtain ⟨b, vs, e3, h1, _, h2⟩ := r; cases e3; exact ⟨⟨vs, h1⟩, h2⟩
theorem Fr.refl : Fr σ st Hs H σ st Hs H :=
  ⟨fun _ _ h => h, fun _ _ h _ => h, fun _ h => h, fun _ h => .inl h, fun _ h _ _ => h, fun _ _ _ h => ⟨h, rfl⟩, fun _ _ h => ⟨h, rfl⟩, fun _ xs h => ⟨xs, h, rfl⟩, fun _ o h => ⟨o, h⟩, rfl⟩
theorem Fr.trans (a : Fr σ st Hs H σ1 st1 Hs1 H1) (b : Fr σ1 st1 Hs1 H1 σ2 st2 Hs2 H2) : Fr σ st Hs H σ2 st2 Hs2 H2 where
  sub := a.sub.trans b.sub
  keep := fun x o h n => b.keep x o (a.keep x o h n) fun z => by
    rcases a.own x z with z | z
    · exact n z
    · rw [z] at h; cases h
  dom := fun x h => a.dom x (b.dom x h)
  own := fun x h => by
    rcases b.own x h with h | h
    · exact a.own x h
    · exact .inr (a.dom x h)
  shr := fun x h n e => by
    have h1 := a.shr x h n e
    refine b.shr x h1 (fun z => ?_) fun z => e (a.dom x z)
    rcases a.own x z with z | z
    · exact n z
    · exact e z
  kk := fun i p xs h => by
    obtain ⟨h1, e1⟩ := b.kk i p xs h
    obtain ⟨h2, e2⟩ := a.kk i p xs h1
    exact ⟨h2, e1.trans e2⟩
  kp := fun i xs h => by
    obtain ⟨h1, e1⟩ := a.kp i xs h
    obtain ⟨h2, e2⟩ := b.kp i xs h1
    exact ⟨h2, e2.trans e1⟩
  lp := fun i xs h => by
    obtain ⟨ys, h1, e1⟩ := a.lp i xs h
    obtain ⟨zs, h2, e2⟩ := b.lp i ys h1
    exact ⟨zs, h2, e2.trans e1⟩
  bd := fun i o h => by
    obtain ⟨o1, h1⟩ := a.bd i o h
    exact b.bd i o1 h1
  sz := b.sz.trans a.sz
theorem Fr.hel (k : Fr σ st Hs H σ1 st1 Hs1 H1) {a : Addr} (h : Hel σ1 st1 a) : Hel σ st a ∨ H a = none := by
  obtain ⟨i, o, e, hh, q⟩ := h
  cases o with
  | d x => cases hh
  | l p xs =>
    rcases k.own a ⟨i, p, xs, e, q⟩ with z | z
    · exact .inl z.hel
    · exact .inr z
  | k p xs =>
    obtain ⟨e1, e2⟩ := k.kk i p xs e
    exact .inl ⟨i, _, e1, rfl, by rw [← e2]; exact q⟩

/-- a result, at a value -/
def RRep (σ : L2.St) (st : St) (Hs H : Hp) (v : V) : R → Prop
  | .v (.d x) => Sh Hs x v
  | .v (.l _ xs) => ∃ a vs, v = .ref a ∧ H a = some (.lst vs) ∧ ShA Hs xs vs ∧ Hs a = none ∧ ¬ Hel σ st a
  | .v (.k _ _) => False
  | .r i => σ[i]? = some (some v) ∧ ∃ o, st[i]? = some (some o)
/-- the address of a list that no variable holds yet -/
def tmp : R → V → List Addr
  | .v (.l _ _), .ref a => [a]
  | _, _ => []
theorem RRep.lift {v : V} {r : R} (h : RRep σ st Hs H v r) (k : Fr σ st Hs H σ st1 Hs1 H1) : RRep σ st1 Hs1 H1 v r := by
  cases r with
  | v o =>
    cases o with
    | d x => exact Sh.mono k.sub h
    | k p xs => exact h
    | l p xs =>
      obtain ⟨a, vs, e, h1, h2, h3, h4⟩ := h
      have no : ¬ Own σ st a := fun z => h4 z.hel
      refine ⟨a, vs, e, k.keep a _ h1 no, ShA.mono k.sub h2, k.shr a h3 no (by rw [h1]; simp), fun z => ?_⟩
      rcases k.hel z with z | z
      · exact h4 z
      · rw [h1] at z; cases z
  | r i =>
    obtain ⟨e, o, q⟩ := h
    exact ⟨e, k.bd i o q⟩
/-- read as data -/
def RV (Hs H : Hp) : D → V → Prop
  | .lst xs, v => ∃ a vs, v = .ref a ∧ H a = some (.lst vs) ∧ ShA Hs xs vs
  | x, v => Sh Hs x v
theorem RV.sh {x : D} {v : V} (sub : Same Hs H) (h : RV Hs H x v) : Sh H x v := by
  cases x with
  | lst xs =>
    obtain ⟨a, vs, e, h1, h2⟩ := h
    exact ⟨a, vs, e, h1, ShA.mono sub h2⟩
  | _ => exact Sh.mono sub h
theorem RV.of_sh {x : D} {v : V} (sub : Same Hs H) (h : Sh Hs x v) : RV Hs H x v := by
  cases x with
  | lst xs =>
    obtain ⟨a, vs, e, h1, h2⟩ := h
    exact ⟨a, vs, e, sub _ _ h1, h2⟩
  | _ => exact h
theorem Ok.view (k : Ok σ st Hs H) {v : V} {r : R} {x : D} (h : RRep σ st Hs H v r) (e : view r st = some x) : RV Hs H x v := by
  cases r with
  | v o =>
    cases e
    cases o with
    | d x => exact RV.of_sh k.sub h
    | l p xs =>
      obtain ⟨a, vs, e, h1, h2, _⟩ := h
      exact ⟨a, vs, e, h1, h2⟩
    | k p xs => exact h.elim
  | r i =>
    obtain ⟨e1, o, q⟩ := h
    have e : (match st[i]? with | some (some o) => some (oView o) | _ => none) = some x := e
    rw [q] at e
    cases e
    obtain ⟨w, e2, rp⟩ := k.rep i o q
    rw [e1] at e2; cases e2
    cases o with
    | d x => exact RV.of_sh k.sub rp
    | l p xs =>
      obtain ⟨a, vs, e, h1, h2, _⟩ := rp
      exact ⟨a, vs, e, h1, h2⟩
    | k p xs =>
      obtain ⟨a, vs, e, h1, h2, _⟩ := rp
      exact ⟨a, vs, e, h1, h2⟩

/-! ### steps that lay something new -/
theorem same_upd {p : Addr} {o : HO} (h : Hs p = none) : Same Hs (upd Hs p o) := fun b x e => by
  rw [upd_ne (ne_of_none e h)]; exact e
theorem upd_none {p a : Addr} {o : HO} (h : upd H p o a = none) : H a = none := by
  by_cases e : a = p
  · subst e; rw [upd_same] at h; cases h
  · rw [upd_ne e] at h; exact h
theorem Same.free {a : Addr} (m : Same Hs H) (h : H a = none) : Hs a = none := by
  cases e : Hs a with
  | none => rfl
  | some o => rw [m a o e] at h; cases h
theorem Rep.lay {v : V} {o : O} {p : Addr} {x : HO} (h : Rep Hs H v o) (n : H p = none) : Rep Hs (upd H p x) v o := by
  cases o with
  | d y => exact h
  | l q xs =>
    obtain ⟨a, vs, e, h1, h2, h3⟩ := h
    exact ⟨a, vs, e, by rw [upd_ne (ne_of_none h1 n)]; exact h1, h2, h3⟩
  | k q xs =>
    obtain ⟨a, vs, e, h1, h2, h3⟩ := h
    exact ⟨a, vs, e, by rw [upd_ne (ne_of_none h1 n)]; exact h1, h2, h3⟩
theorem Rep.layS {v : V} {o : O} {p : Addr} {x : HO} (h : Rep Hs H v o) (sub : Same Hs H) (n : H p = none) : Rep (upd Hs p x) (upd H p x) v o := by
  have ns := Same.free sub n
  have m := same_upd (o := x) ns
  cases o with
  | d y => exact Sh.mono m h
  | l q xs =>
    obtain ⟨a, vs, e, h1, h2, h3⟩ := h
    have ne := ne_of_none h1 n
    exact ⟨a, vs, e, by rw [upd_ne ne]; exact h1, ShA.mono m h2, by rw [upd_ne ne]; exact h3⟩
  | k q xs =>
    obtain ⟨a, vs, e, h1, h2, h3⟩ := h
    have ne := ne_of_none h1 n
    exact ⟨a, vs, e, by rw [upd_ne ne]; exact h1, ShA.mono m h2, by rw [upd_ne ne]; exact h3⟩
theorem Ok.lay (k : Ok σ st Hs H) {p : Addr} {x : HO} (n : H p = none) : Ok σ st Hs (upd H p x) :=
  ⟨k.len, k.sub.trans (same_upd n), fun i o e => let ⟨v, q, r⟩ := k.rep i o e; ⟨v, q, r.lay n⟩, k.inj⟩
theorem Fr.lay (k : Ok σ st Hs H) {p : Addr} {x : HO} (n : H p = none) : Fr σ st Hs H σ st Hs (upd H p x) :=
  ⟨fun _ _ h => h, fun a o h _ => same_upd n a o h, fun _ h => upd_none h, fun _ h => .inl h, fun _ h _ _ => h, fun _ _ _ h => ⟨h, rfl⟩, fun _ _ h => ⟨h, rfl⟩, fun _ xs h => ⟨xs, h, rfl⟩, fun _ o h => ⟨o, h⟩, rfl⟩
theorem Ok.layS (k : Ok σ st Hs H) {p : Addr} {x : HO} (n : H p = none) : Ok σ st (upd Hs p x) (upd H p x) := by
  refine ⟨k.len, fun b y e => ?_, fun i o e => ?_, k.inj⟩
  · by_cases hb : b = p
    · subst hb; rw [upd_same] at e ⊢; exact e
    · rw [upd_ne hb] at e ⊢; exact k.sub b y e
  · obtain ⟨v, q, r⟩ := k.rep i o e
    exact ⟨v, q, r.layS k.sub n⟩
theorem Fr.layS (k : Ok σ st Hs H) {p : Addr} {x : HO} (n : H p = none) : Fr σ st Hs H σ st (upd Hs p x) (upd H p x) :=
  ⟨same_upd (Same.free k.sub n), fun a o h _ => same_upd n a o h, fun _ h => upd_none h, fun _ h => .inl h, fun a h _ e => by
      rw [upd_ne (fun z => by subst z; exact e n)]; exact h, fun _ _ _ h => ⟨h, rfl⟩, fun _ _ h => ⟨h, rfl⟩, fun _ xs h => ⟨xs, h, rfl⟩, fun _ o h => ⟨o, h⟩, rfl⟩
/-- a value that an operation gives -/
def Grow (Hs H Hs' H' : Hp) (z : O) (v : V) : Prop :=
  (H' = H ∧ Hs' = Hs ∧ ∃ w, z = .d w ∧ Sh Hs w v) ∨
  (∃ p o w, H p = none ∧ H' = upd H p o ∧ Hs' = upd Hs p o ∧ z = .d w ∧ Sh Hs' w v) ∨
  (∃ p vs b xs, H p = none ∧ v = .ref p ∧ H' = upd H p (.lst vs) ∧ Hs' = Hs ∧ z = .l b xs ∧ ShA Hs xs vs)
theorem Grow.sc {w : D} {v : V} (h : Sh Hs w v) : Grow Hs H Hs H (.d w) v := .inl ⟨rfl, rfl, w, rfl, h⟩
theorem Grow.tup {p : Addr} {xs : List D} {vs : List V} (sub : Same Hs H) (n : H p = none) (h : ShA Hs xs vs) : Grow Hs H (upd Hs p (.tup vs)) (upd H p (.tup vs)) (.d (.tup xs)) (.ref p) :=
  .inr (.inl ⟨p, _, _, n, rfl, rfl, rfl, p, vs, rfl, upd_same, ShA.mono (same_upd (Same.free sub n)) h⟩)
theorem Grow.lst {p : Addr} {b : Bool} {xs : List D} {vs : List V} (n : H p = none) (h : ShA Hs xs vs) : Grow Hs H Hs (upd H p (.lst vs)) (.l b xs) (.ref p) :=
  .inr (.inr ⟨p, vs, b, xs, n, rfl, rfl, rfl, rfl, h⟩)
/-- what a result may stand on: nothing that was another's -/
def Fresh (σ : L2.St) (st : St) (H : Hp) (v : V) (r : R) : Prop := ∀ a ∈ tmp r v, Own σ st a ∨ H a = none
theorem Ok.grow (k : Ok σ st Hs H) {z : O} {v : V} (g : Grow Hs H Hs1 H1 z v) : Ok σ st Hs1 H1 ∧ Fr σ st Hs H σ st Hs1 H1 ∧ RRep σ st Hs1 H1 v (.v z) ∧ Fresh σ st H v (.v z) := by
  rcases g with ⟨rfl, rfl, w, rfl, h⟩ | ⟨p, o, w, n, rfl, rfl, rfl, h⟩ | ⟨p, vs, b, xs, n, rfl, rfl, rfl, rfl, h⟩
  · exact ⟨k, Fr.refl, h, fun a ha => by simp [tmp] at ha⟩
  · exact ⟨k.layS n, Fr.layS k n, h, fun a ha => by simp [tmp] at ha⟩
  · refine ⟨k.lay n, Fr.lay k n, ⟨p, vs, rfl, upd_same, h, Same.free k.sub n, fun z => ?_⟩, fun a ha => ?_⟩
    · obtain ⟨⟨vs, e⟩, _⟩ := k.own_at z
      rw [n] at e; cases e
    · have : a = p := by simpa [tmp] using ha
      subst this
      exact .inr n

/-! ### a list is shared from then on -/
theorem set_self {α : Type} {l : List α} {i : Nat} {x y : α} (h : l[i]? = some x) : (l.set i y)[i]? = some y := by
  rw [List.getElem?_set_self (List.getElem?_eq_some_iff.mp h).1]
theorem set_cases {α : Type} {l : List α} {i j : Nat} {y z : α} (h : (l.set i y)[j]? = some z) : (j = i ∧ z = y) ∨ (j ≠ i ∧ l[j]? = some z) := by
  rw [List.getElem?_set] at h
  split at h
  · rename_i e
    split at h
    · cases h; exact .inl ⟨e.symm, rfl⟩
    · cases h
  · rename_i e
    exact .inr ⟨fun q => e q.symm, h⟩
theorem upd_sub {a : Addr} {x : HO} (sub : Same Hs H) (h : H a = some x) : Same (upd Hs a x) H := fun b y e => by
  by_cases hb : b = a
  · subst hb; rw [upd_same] at e; cases e; exact h
  · rw [upd_ne hb] at e; exact sub b y e
/-- a variable's own list becomes shared -/
theorem Ok.share (k : Ok σ st Hs H) {i : Nat} {xs : List D} {v : V} (e : st[i]? = some (some (.l false xs))) (ev : σ[i]? = some (some v)) :
    ∃ Hs1, Ok σ (st.set i (some (.d (.lst xs)))) Hs1 H ∧ Fr σ st Hs H σ (st.set i (some (.d (.lst xs)))) Hs1 H ∧ Sh Hs1 (.lst xs) v := by
  obtain ⟨w, e2, a, vs, rfl, h1, h2, h3⟩ := k.rep i _ e
  rw [ev] at e2; cases e2
  have m : Same Hs (upd Hs a (.lst vs)) := same_upd h3
  have ow : Own σ st a := ⟨i, false, xs, e, ev⟩
  have sh : Sh (upd Hs a (.lst vs)) (.lst xs) (.ref a) := ⟨a, vs, rfl, upd_same, ShA.mono m h2⟩
  refine ⟨upd Hs a (.lst vs), ⟨by simpa using k.len, upd_sub k.sub h1, fun j o q => ?_, fun j j' p ys o b q1 q2 hh q3 q4 => ?_⟩, ⟨m, fun _ _ h _ => h, fun _ h => h, fun b z => ?_, fun b z n _ => ?_, fun j p ys q => ?_, fun j ys q => ?_, fun j ys q => ?_, fun j o q => ?_, by simp⟩, sh⟩
  · rcases set_cases q with ⟨rfl, z⟩ | ⟨ne, q⟩
    · cases z; exact ⟨_, ev, sh⟩
    · obtain ⟨u, e3, r⟩ := k.rep j o q
      refine ⟨u, e3, ?_⟩
      cases o with
      | d y => exact Sh.mono m r
      | l p ys =>
        obtain ⟨b, ws, rfl, r1, r2, r3⟩ := r
        have hb : b ≠ a := fun z => by
          subst z
          exact ne (k.inj j i _ _ _ b q e rfl e3 ev)
        exact ⟨b, ws, rfl, r1, ShA.mono m r2, by rw [upd_ne hb]; exact r3⟩
      | k p ys =>
        obtain ⟨b, ws, rfl, r1, r2, r3⟩ := r
        have hb : b ≠ a := fun z => by
          subst z
          exact ne (k.inj i j _ _ _ b e q rfl ev e3).symm
        exact ⟨b, ws, rfl, r1, ShA.mono m r2, by rw [upd_ne hb]; exact r3⟩
  · rcases set_cases q1 with ⟨rfl, z⟩ | ⟨_, q1⟩
    · cases z
    · rcases set_cases q2 with ⟨rfl, z⟩ | ⟨_, q2⟩
      · cases z; cases hh
      · exact k.inj j j' p ys o b q1 q2 hh q3 q4
  · obtain ⟨j, p, ys, q, q2⟩ := z
    rcases set_cases q with ⟨rfl, z⟩ | ⟨_, q⟩
    · cases z
    · exact .inl ⟨j, p, ys, q, q2⟩
  · rw [upd_ne (fun e => n (by rw [e]; exact ow))]; exact z
  · rcases set_cases q with ⟨rfl, z⟩ | ⟨_, q⟩
    · cases z
    · exact ⟨q, rfl⟩
  · by_cases hj : j = i
    · subst hj; rw [e] at q; cases q
    · exact ⟨by rw [List.getElem?_set_ne (Ne.symm hj)]; exact q, rfl⟩
  · by_cases hj : j = i
    · subst hj; rw [e] at q; cases q
    · exact ⟨ys, by rw [List.getElem?_set_ne (Ne.symm hj)]; exact q, rfl⟩
  · by_cases hj : j = i
    · subst hj; exact ⟨_, set_self q⟩
    · exact ⟨o, by rw [List.getElem?_set_ne (Ne.symm hj)]; exact q⟩
/-- a list that no variable holds becomes shared -/
theorem Ok.shareT (k : Ok σ st Hs H) {a : Addr} {vs : List V} (h1 : H a = some (.lst vs)) (h3 : Hs a = none) (nh : ¬ Hel σ st a) : Ok σ st (upd Hs a (.lst vs)) H := by
  have m : Same Hs (upd Hs a (.lst vs)) := same_upd h3
  refine ⟨k.len, upd_sub k.sub h1, fun j o q => ?_, k.inj⟩
  obtain ⟨u, e3, r⟩ := k.rep j o q
  refine ⟨u, e3, ?_⟩
  cases o with
  | d y => exact Sh.mono m r
  | l p ys =>
    obtain ⟨b, ws, rfl, r1, r2, r3⟩ := r
    exact ⟨b, ws, rfl, r1, ShA.mono m r2, by rw [upd_ne (fun z => nh ⟨j, _, q, rfl, by rw [e3, z]⟩)]; exact r3⟩
  | k p ys =>
    obtain ⟨b, ws, rfl, r1, r2, r3⟩ := r
    exact ⟨b, ws, rfl, r1, ShA.mono m r2, by rw [upd_ne (fun z => nh ⟨j, _, q, rfl, by rw [e3, z]⟩)]; exact r3⟩
end
end Itp

namespace Itp
variable [KF]
open PySem
open L2 (V Hp HO upd upd_same upd_ne ne_of ne_of_none Same)
section
variable {σ σ0 σ1 σ2 : L2.St} {st st0 st1 st2 : St} {Hs H Hs0 H0 Hs1 H1 Hs2 H2 : Hp}

/-! ### lists of results -/
def tmps : List R → List V → List Addr
  | r :: rs, v :: vs => tmp r v ++ tmps rs vs
  | _, _ => []
def RA (σ : L2.St) (st : St) (Hs H : Hp) : List R → List V → Prop
  | [], vs => vs = []
  | r :: rs, vs => ∃ v ws, vs = v :: ws ∧ RRep σ st Hs H v r ∧ RA σ st Hs H rs ws ∧ ∀ a ∈ tmp r v, a ∉ tmps rs ws
theorem RA.lift (k : Fr σ st Hs H σ st1 Hs1 H1) : ∀ {rs : List R} {vs : List V}, RA σ st Hs H rs vs → RA σ st1 Hs1 H1 rs vs
  | [], _, h => h
  | r :: rs, _, h => by
    obtain ⟨v, ws, e, a, b, c⟩ := h
    exact ⟨v, ws, e, a.lift k, RA.lift k b, c⟩
theorem RA.len : ∀ {rs : List R} {vs : List V}, RA σ st Hs H rs vs → rs.length = vs.length
  | [], _, h => by cases (show _ = [] from h); rfl
  | r :: rs, _, h => by
    obtain ⟨v, ws, e, a, b, c⟩ := h
    subst e
    simp [RA.len b]
theorem tmp_at {v : V} {r : R} (h : RRep σ st Hs H v r) {a : Addr} (ha : a ∈ tmp r v) : (∃ vs, H a = some (.lst vs)) ∧ Hs a = none ∧ ¬ Hel σ st a := by
  cases r with
  | r i => simp [tmp] at ha
  | v o =>
    cases o with
    | d x => simp [tmp] at ha
    | k p xs => exact h.elim
    | l p xs =>
      obtain ⟨b, vs, rfl, h1, h2, h3, h4⟩ := h
      have : a = b := by simpa [tmp] using ha
      subst this
      exact ⟨⟨vs, h1⟩, h3, h4⟩
theorem tmps_at : ∀ {rs : List R} {vs : List V}, RA σ st Hs H rs vs → ∀ a ∈ tmps rs vs, (∃ ws, H a = some (.lst ws)) ∧ Hs a = none ∧ ¬ Hel σ st a
  | [], _, _, _, ha => by simp [tmps] at ha
  | r :: rs, _, h, a, ha => by
    obtain ⟨v, ws, rfl, q, b, c⟩ := h
    rcases List.mem_append.mp (show a ∈ tmp r v ++ tmps rs ws from ha) with z | z
    · exact tmp_at q z
    · exact tmps_at b a z
/-- a head in front of results that came behind it -/
theorem RA.cons {v : V} {r : R} {rs : List R} {vs : List V} (h : RRep σ st Hs H v r) (k : Fr σ st Hs H σ st1 Hs1 H1) (t : RA σ st1 Hs1 H1 rs vs) (f : ∀ a ∈ tmps rs vs, Own σ st a ∨ H a = none) : RA σ st1 Hs1 H1 (r :: rs) (v :: vs) := by
  refine ⟨v, vs, rfl, h.lift k, t, fun a ha hb => ?_⟩
  obtain ⟨⟨ws, e⟩, _, n⟩ := tmp_at h ha
  rcases f a hb with z | z
  · exact n z.hel
  · rw [e] at z; cases z
def FreshA (σ : L2.St) (st : St) (H : Hp) (vs : List V) (rs : List R) : Prop := ∀ a ∈ tmps rs vs, Own σ st a ∨ H a = none
theorem Fresh.back {v : V} {r : R} (f : Fresh σ st1 H1 v r) (k : Fr σ st Hs H σ st1 Hs1 H1) : Fresh σ st H v r := fun a ha => by
  rcases f a ha with z | z
  · exact k.own a z
  · exact .inr (k.dom a z)
theorem FreshA.back {vs : List V} {rs : List R} (f : FreshA σ st1 H1 vs rs) (k : Fr σ st Hs H σ st1 Hs1 H1) : FreshA σ st H vs rs := fun a ha => by
  rcases f a ha with z | z
  · exact k.own a z
  · exact .inr (k.dom a z)
theorem FreshA.cons {v : V} {r : R} {vs : List V} {rs : List R} (f : Fresh σ st H v r) (g : FreshA σ st H vs rs) : FreshA σ st H (v :: vs) (r :: rs) := fun a ha => by
  rcases List.mem_append.mp (show a ∈ tmp r v ++ tmps rs vs from ha) with z | z
  · exact f a z
  · exact g a z

/-! ### frozen -/
theorem RRep.shareT {a : Addr} {vs : List V} {v : V} {r : R} (h3 : Hs a = none) (h : RRep σ st Hs H v r) (na : a ∉ tmp r v) : RRep σ st (upd Hs a (.lst vs)) H v r := by
  have m : Same Hs (upd Hs a (.lst vs)) := same_upd h3
  cases r with
  | r i => exact h
  | v o =>
    cases o with
    | d x => exact Sh.mono m h
    | k p xs => exact h
    | l p xs =>
      obtain ⟨b, ws, rfl, r1, r2, r3, r4⟩ := h
      refine ⟨b, ws, rfl, r1, ShA.mono m r2, ?_, r4⟩
      rw [upd_ne (fun z => na (by simp [tmp, z]))]
      exact r3
theorem RA.shareT {a : Addr} {us : List V} (h3 : Hs a = none) : ∀ {rs : List R} {vs : List V}, RA σ st Hs H rs vs → a ∉ tmps rs vs → RA σ st (upd Hs a (.lst us)) H rs vs
  | [], _, h, _ => h
  | r :: rs, _, h, na => by
    obtain ⟨v, ws, rfl, q, b, c⟩ := h
    have na : a ∉ tmp r v ++ tmps rs ws := na
    rw [List.mem_append, not_or] at na
    exact ⟨v, ws, rfl, q.shareT h3 na.1, RA.shareT h3 b na.2, c⟩
theorem froz_ok {v : V} {r : R} {x : D} {rs : List R} {ws : List V} (k : Ok σ st Hs H) (f : Fr σ0 st0 Hs0 H0 σ st Hs H) (h : RRep σ st Hs H v r) (fr : ∀ a ∈ tmp r v, Own σ0 st0 a ∨ H0 a = none) (e : froz r st = some (x, st1))
    (ra : RA σ st Hs H rs ws) (ap : ∀ a ∈ tmp r v, a ∉ tmps rs ws) : ∃ Hs1, Ok σ st1 Hs1 H ∧ Fr σ0 st0 Hs0 H0 σ st1 Hs1 H ∧ Sh Hs1 x v ∧ RA σ st1 Hs1 H rs ws ∧ Same Hs Hs1 := by
  cases r with
  | v o =>
    cases o with
    | d y =>
      simp only [froz, Option.some.injEq, Prod.mk.injEq] at e
      obtain ⟨rfl, rfl⟩ := e
      exact ⟨Hs, k, f, h, ra, fun _ _ z => z⟩
    | k p xs => simp [froz] at e
    | l p xs =>
      simp only [froz, Option.some.injEq, Prod.mk.injEq] at e
      obtain ⟨rfl, rfl⟩ := e
      obtain ⟨a, vs, rfl, h1, h2, h3, h4⟩ := h
      have m : Same Hs (upd Hs a (.lst vs)) := same_upd h3
      have ma : a ∈ tmp (.v (.l p xs)) (.ref a) := by simp [tmp]
      refine ⟨upd Hs a (.lst vs), k.shareT h1 h3 h4, ⟨f.sub.trans m, f.keep, f.dom, f.own, fun b z n q => ?_, f.kk, f.kp, f.lp, f.bd, f.sz⟩, ⟨a, vs, rfl, upd_same, ShA.mono m h2⟩, ra.shareT h3 (ap a ma), m⟩
      have hb : b ≠ a := fun z2 => by
        subst z2
        rcases fr b ma with w | w
        · exact n w
        · exact q w
      rw [upd_ne hb]
      exact f.shr b z n q
  | r i =>
    obtain ⟨ev, o, q⟩ := h
    simp only [froz, q] at e
    cases o with
    | d y =>
      simp only [Option.some.injEq, Prod.mk.injEq] at e
      obtain ⟨rfl, rfl⟩ := e
      obtain ⟨w, e2, rp⟩ := k.rep i _ q
      rw [ev] at e2; cases e2
      exact ⟨Hs, k, f, rp, ra, fun _ _ z => z⟩
    | k p xs => simp at e
    | l p xs =>
      cases p with
      | true => simp at e
      | false =>
        simp only [Option.some.injEq, Prod.mk.injEq] at e
        obtain ⟨rfl, rfl⟩ := e
        obtain ⟨Hs1, k1, f1, sh⟩ := k.share q ev
        exact ⟨Hs1, k1, f.trans f1, sh, ra.lift f1, f1.sub⟩
theorem frozAll_ok (h0 : Fr σ0 st0 Hs0 H0 σ st Hs H) : ∀ {rs : List R} {vs : List V} {xs : List D} {st st1 : St} {Hs : Hp}, Ok σ st Hs H → Fr σ0 st0 Hs0 H0 σ st Hs H → RA σ st Hs H rs vs → (∀ a ∈ tmps rs vs, Own σ0 st0 a ∨ H0 a = none) →
    frozAll rs st = some (xs, st1) → ∃ Hs1, Ok σ st1 Hs1 H ∧ Fr σ0 st0 Hs0 H0 σ st1 Hs1 H ∧ ShA Hs1 xs vs ∧ Same Hs Hs1
  | [], vs, xs, st, st1, Hs, k, f, ra, fr, e => by
    simp only [frozAll, Option.some.injEq, Prod.mk.injEq] at e
    obtain ⟨rfl, rfl⟩ := e
    exact ⟨Hs, k, f, ra, fun _ _ z => z⟩
  | r :: rs, vs, xs, st, st1, Hs, k, f, ra, fr, e => by
    obtain ⟨v, ws, rfl, q, b, c⟩ := ra
    simp only [frozAll] at e
    cases e1 : froz r st with
    | none => rw [e1] at e; cases e
    | some p =>
      obtain ⟨x, s1⟩ := p
      rw [e1] at e
      simp only at e
      cases e2 : frozAll rs s1 with
      | none => rw [e2] at e; cases e
      | some p2 =>
        obtain ⟨ys, s2⟩ := p2
        rw [e2] at e
        simp only [Option.some.injEq, Prod.mk.injEq] at e
        obtain ⟨rfl, rfl⟩ := e
        obtain ⟨Hs1, k1, f1, sh, ra1, m1⟩ := froz_ok k f q (fun a ha => fr a (List.mem_append_left _ ha)) e1 b c
        obtain ⟨Hs2, k2, f2, sh2, m2⟩ := frozAll_ok h0 k1 f1 ra1 (fun a ha => fr a (List.mem_append_right _ ha)) e2
        exact ⟨Hs2, k2, f2, ⟨v, ws, rfl, Sh.mono m2 sh, sh2⟩, m1.trans m2⟩
/-- to be stored -/
theorem take_ok {v : V} {r : R} {o : O} (k : Ok σ st Hs H) (f : Fr σ0 st0 Hs0 H0 σ st Hs H) (h : RRep σ st Hs H v r) (fr : ∀ a ∈ tmp r v, Own σ0 st0 a ∨ H0 a = none) (e : take r st = some (o, st1)) :
    ∃ Hs1, Ok σ st1 Hs1 H ∧ Fr σ0 st0 Hs0 H0 σ st1 Hs1 H ∧ RRep σ st1 Hs1 H v (.v o) ∧ ∀ a ∈ tmp (.v o) v, Own σ0 st0 a ∨ H0 a = none := by
  cases r with
  | v o' =>
    cases o' with
    | d y =>
      simp only [take, Option.some.injEq, Prod.mk.injEq] at e
      obtain ⟨rfl, rfl⟩ := e
      exact ⟨Hs, k, f, h, fr⟩
    | k p xs => simp [take] at e
    | l p xs =>
      simp only [take, Option.some.injEq, Prod.mk.injEq] at e
      obtain ⟨rfl, rfl⟩ := e
      refine ⟨Hs, k, f, h, fun a ha => fr a ?_⟩
      obtain ⟨b, vs, rfl, _⟩ := h
      exact ha
  | r i =>
    simp only [take] at e
    cases e1 : froz (.r i) st with
    | none => rw [e1] at e; cases e
    | some p =>
      obtain ⟨x, s1⟩ := p
      rw [e1] at e
      simp only [Option.some.injEq, Prod.mk.injEq] at e
      obtain ⟨rfl, rfl⟩ := e
      obtain ⟨Hs1, k1, f1, sh, _⟩ := froz_ok (rs := []) (ws := []) k f h fr e1 rfl (fun a ha => by simp [tmps])
      exact ⟨Hs1, k1, f1, sh, fun a ha => by simp [tmp] at ha⟩
/-- stored at a name -/
theorem put_ok {v : V} {o : O} {i : Nat} (k : Ok σ st Hs H) (f : Fr σ0 st0 Hs0 H0 σ st Hs H) (h : RRep σ st Hs H v (.v o)) (fr : ∀ a ∈ tmp (.v o) v, Own σ0 st0 a ∨ H0 a = none) (e : put i o st = some st1) :
    Ok (σ.set i (some v)) st1 Hs H ∧ Fr σ0 st0 Hs0 H0 (σ.set i (some v)) st1 Hs H ∧ i < σ.length := by
  have hi : i < st.length := by
    unfold put at e
    cases q : st[i]? with
    | none => rw [q] at e; cases e
    | some z => exact (List.getElem?_eq_some_iff.mp q).1
  have hs : i < σ.length := by rw [← k.len]; exact hi
  have e1 : st1 = st.set i (some o) := by
    unfold put at e
    split at e <;> first | (cases e; rfl) | cases e
  have np : (∀ xs, st[i]? ≠ some (some (.l true xs))) ∧ ∀ xs, st[i]? ≠ some (some (.k true xs)) := by
    unfold put at e
    constructor <;> (intro xs q; rw [q] at e; simp at e)
  subst e1
  have rp : Rep Hs H v o := by
    cases o with
    | d x => exact h
    | l p xs => obtain ⟨a, vs, e, h1, h2, h3, _⟩ := h; exact ⟨a, vs, e, h1, h2, h3⟩
    | k p xs => exact h.elim
  have nh : ∀ a, held o = true → v = .ref a → ¬ Hel σ st a := by
    intro a hh hv
    cases o with
    | d x => cases hh
    | l p xs => obtain ⟨b, vs, e, _, _, _, n⟩ := h; rw [hv] at e; cases e; exact n
    | k p xs => exact h.elim
  have at_ : ∀ {j : Nat} {w : V}, (σ.set i (some v))[j]? = some (some w) → (j = i ∧ w = v) ∨ (j ≠ i ∧ σ[j]? = some (some w)) := fun {j w} q => by
    rcases set_cases q with ⟨a, b⟩ | ⟨a, b⟩
    · cases b; exact .inl ⟨a, rfl⟩
    · exact .inr ⟨a, b⟩
  have nek : ∀ p xs, o = .k p xs → False := fun p xs z => by subst z; exact h
  refine ⟨⟨by simpa using k.len, k.sub, fun j o' q => ?_, fun j j' p xs o' a q1 q2 hh q3 q4 => ?_⟩, ⟨f.sub, f.keep, f.dom, fun a z => ?_, f.shr, fun j p xs q => ?_, fun j xs q => ?_, fun j xs q => ?_, fun j o' q => ?_, by simpa using f.sz⟩, hs⟩
  · rcases set_cases q with ⟨rfl, z⟩ | ⟨ne, q⟩
    · cases z; exact ⟨v, by rw [List.getElem?_set_self hs], rp⟩
    · obtain ⟨w, e2, r⟩ := k.rep j o' q
      exact ⟨w, by rw [List.getElem?_set_ne (Ne.symm ne)]; exact e2, r⟩
  · rcases set_cases q1 with ⟨e1, z1⟩ | ⟨n1, q1⟩
    · cases z1
      rcases set_cases q2 with ⟨e2, z2⟩ | ⟨n2, q2⟩
      · rw [e1, e2]
      · rcases at_ q3 with ⟨_, z3⟩ | ⟨n3, _⟩
        · rcases at_ q4 with ⟨e4, _⟩ | ⟨_, q4⟩
          · exact absurd e4 n2
          · exact absurd ⟨j', o', q2, hh, q4⟩ (nh a rfl z3.symm)
        · exact absurd e1 n3
    · rcases at_ q3 with ⟨e3, _⟩ | ⟨_, q3⟩
      · exact absurd e3 n1
      · rcases set_cases q2 with ⟨e2, z2⟩ | ⟨n2, q2⟩
        · cases z2
          rcases at_ q4 with ⟨_, z4⟩ | ⟨n4, _⟩
          · exact absurd ⟨j, _, q1, rfl, q3⟩ (nh a hh z4.symm)
          · exact absurd e2 n4
        · rcases at_ q4 with ⟨e4, _⟩ | ⟨_, q4⟩
          · exact absurd e4 n2
          · exact k.inj j j' p xs o' a q1 q2 hh q3 q4
  · obtain ⟨j, p, xs, q1, q2⟩ := z
    rcases set_cases q1 with ⟨e1, z1⟩ | ⟨n1, q1⟩
    · cases z1
      rcases at_ q2 with ⟨_, z2⟩ | ⟨n2, _⟩
      · exact fr a (by rw [← z2]; simp [tmp])
      · exact absurd e1 n2
    · rcases at_ q2 with ⟨e2, _⟩ | ⟨_, q2⟩
      · exact absurd e2 n1
      · exact f.own a ⟨j, p, xs, q1, q2⟩
  · rcases set_cases q with ⟨_, z⟩ | ⟨ne, q⟩
    · exact (nek p xs (Option.some.inj z).symm).elim
    · obtain ⟨a, b⟩ := f.kk j p xs q
      exact ⟨a, by rw [List.getElem?_set_ne (Ne.symm ne)]; exact b⟩
  · obtain ⟨a, b⟩ := f.kp j xs q
    have ne : j ≠ i := fun z => by subst z; exact np.2 _ a
    exact ⟨by rw [List.getElem?_set_ne (Ne.symm ne)]; exact a, by rw [List.getElem?_set_ne (Ne.symm ne)]; exact b⟩
  · obtain ⟨ys, a, b⟩ := f.lp j xs q
    have ne : j ≠ i := fun z => by subst z; exact np.1 _ a
    exact ⟨ys, by rw [List.getElem?_set_ne (Ne.symm ne)]; exact a, by rw [List.getElem?_set_ne (Ne.symm ne)]; exact b⟩
  · obtain ⟨o1, a⟩ := f.bd j o' q
    by_cases ne : j = i
    · subst ne; exact ⟨o, set_self a⟩
    · exact ⟨o1, by rw [List.getElem?_set_ne (Ne.symm ne)]; exact a⟩
/-- a variable's own list is changed -/
theorem Ok.chg (k : Ok σ st Hs H) {i : Nat} {p : Bool} {xs ys : List D} {a : Addr} {vs ws : List V} (e : st[i]? = some (some (.l p xs))) (ev : σ[i]? = some (some (.ref a))) (h1 : H a = some (.lst vs)) (hw : ShA Hs ys ws) :
    Ok σ (st.set i (some (.l p ys))) Hs (upd H a (.lst ws)) ∧ Fr σ st Hs H σ (st.set i (some (.l p ys))) Hs (upd H a (.lst ws)) := by
  obtain ⟨w, e2, b, us, eb, h1', h2, h3⟩ := k.rep i _ e
  rw [ev] at e2; cases e2; cases eb
  have ow : Own σ st a := ⟨i, p, xs, e, ev⟩
  refine ⟨⟨by simpa using k.len, fun b x q => ?_, fun j o q => ?_, fun j j' p' xs' o b q1 q2 hh q3 q4 => ?_⟩, ⟨fun _ _ h => h, fun b o h n => ?_, fun b z => upd_none z, fun b z => .inl ?_, fun b z _ _ => z, fun j p' zs q => ?_, fun j zs q => ?_, fun j zs q => ?_, fun j o q => ?_, by simp⟩⟩
  · rw [upd_ne (fun z => by subst z; rw [h3] at q; cases q)]; exact k.sub b x q
  · rcases set_cases q with ⟨rfl, z⟩ | ⟨ne, q⟩
    · cases z; exact ⟨_, ev, a, ws, rfl, upd_same, hw, h3⟩
    · obtain ⟨u, e3, r⟩ := k.rep j o q
      refine ⟨u, e3, ?_⟩
      cases o with
      | d y => exact r
      | l q' zs =>
        obtain ⟨b, bs, rfl, r1, r2, r3⟩ := r
        exact ⟨b, bs, rfl, by rw [upd_ne (fun z => by subst z; exact ne (k.inj j i _ _ _ b q e rfl e3 ev))]; exact r1, r2, r3⟩
      | k q' zs =>
        obtain ⟨b, bs, rfl, r1, r2, r3⟩ := r
        exact ⟨b, bs, rfl, by rw [upd_ne (fun z => by subst z; exact ne (k.inj i j _ _ _ b e q rfl ev e3).symm)]; exact r1, r2, r3⟩
  · have b1 : ∃ zs, st[j]? = some (some (.l p' zs)) := by
      rcases set_cases q1 with ⟨e1, z1⟩ | ⟨_, q1⟩
      · cases z1; exact ⟨xs, by rw [e1]; exact e⟩
      · exact ⟨_, q1⟩
    have b2 : ∃ o2, st[j']? = some (some o2) ∧ held o2 = true := by
      rcases set_cases q2 with ⟨e1, z1⟩ | ⟨_, q2⟩
      · exact ⟨_, by rw [e1]; exact e, rfl⟩
      · exact ⟨_, q2, hh⟩
    obtain ⟨zs, b1⟩ := b1
    obtain ⟨o2, b2, hh2⟩ := b2
    exact k.inj j j' p' zs o2 b b1 b2 hh2 q3 q4
  · rw [upd_ne (fun z => n (by rw [z]; exact ow))]; exact h
  · obtain ⟨j, p', zs, q1, q2⟩ := z
    rcases set_cases q1 with ⟨e1, z1⟩ | ⟨_, q1⟩
    · cases z1; exact ⟨i, p, xs, e, by rw [← e1]; exact q2⟩
    · exact ⟨j, p', zs, q1, q2⟩
  · rcases set_cases q with ⟨_, z⟩ | ⟨_, q⟩
    · cases z
    · exact ⟨q, rfl⟩
  · by_cases hj : j = i
    · subst hj; rw [e] at q; cases q
    · exact ⟨by rw [List.getElem?_set_ne (Ne.symm hj)]; exact q, rfl⟩
  · by_cases hj : j = i
    · subst hj; rw [e] at q; cases q; exact ⟨ys, set_self e, rfl⟩
    · exact ⟨zs, by rw [List.getElem?_set_ne (Ne.symm hj)]; exact q, rfl⟩
  · by_cases hj : j = i
    · subst hj; exact ⟨_, set_self q⟩
    · exact ⟨o, by rw [List.getElem?_set_ne (Ne.symm hj)]; exact q⟩
theorem Ok.lst_at (k : Ok σ st Hs H) {i : Nat} {p : Bool} {xs : List D} {v : V} (e : st[i]? = some (some (.l p xs))) (ev : σ[i]? = some (some v)) : ∃ a vs, v = .ref a ∧ H a = some (.lst vs) ∧ ShA Hs xs vs ∧ Hs a = none := by
  obtain ⟨w, e2, r⟩ := k.rep i _ e
  rw [ev] at e2; cases e2
  exact r

/-! ### locked, unlocked -/
def lk1 : Option O → Option O
  | some (.l p xs) => some (.k p xs)
  | o => o
def ul1 : Option O → Option O
  | some (.k p xs) => some (.l p xs)
  | o => o
theorem lk1_lk1 (o : Option O) : lk1 (lk1 o) = lk1 o := by
  cases o with
  | none => rfl
  | some o => cases o <;> rfl
theorem ul1_ul1 (o : Option O) : ul1 (ul1 o) = ul1 o := by
  cases o with
  | none => rfl
  | some o => cases o <;> rfl
theorem lock_at : ∀ (L : List Nat) (s : St) (i : Nat), (lock L s)[i]? = if i ∈ L then s[i]?.map lk1 else s[i]?
  | [], s, i => by simp [lock]
  | j :: L, s, i => by
    have one : (lockAt j s)[i]? = if i = j then s[i]?.map lk1 else s[i]? := by
      unfold lockAt
      by_cases hij : i = j
      · subst hij
        rw [if_pos rfl]
        cases q : s[i]? with
        | none => simp [q]
        | some o =>
          cases o with
          | none => simp [q, lk1]
          | some o => cases o <;> simp [q, lk1, set_self q]
      · rw [if_neg hij]
        split
        · rw [List.getElem?_set_ne (Ne.symm hij)]
        · rfl
    unfold lock
    rw [lock_at L, one]
    by_cases hij : i = j
    · subst hij
      rw [if_pos rfl, if_pos List.mem_cons_self]
      split
      · cases s[i]? <;> simp [lk1_lk1]
      · rfl
    · simp [List.mem_cons, hij]
theorem unlock_at : ∀ (L : List Nat) (s : St) (i : Nat), (unlock L s)[i]? = if i ∈ L then s[i]?.map ul1 else s[i]?
  | [], s, i => by simp [unlock]
  | j :: L, s, i => by
    have one : (unlockAt j s)[i]? = if i = j then s[i]?.map ul1 else s[i]? := by
      unfold unlockAt
      by_cases hij : i = j
      · subst hij
        rw [if_pos rfl]
        cases q : s[i]? with
        | none => simp [q]
        | some o =>
          cases o with
          | none => simp [q, ul1]
          | some o => cases o <;> simp [q, ul1, set_self q]
      · rw [if_neg hij]
        split
        · rw [List.getElem?_set_ne (Ne.symm hij)]
        · rfl
    unfold unlock
    rw [unlock_at L, one]
    by_cases hij : i = j
    · subst hij
      rw [if_pos rfl, if_pos List.mem_cons_self]
      split
      · cases s[i]? <;> simp [ul1_ul1]
      · rfl
    · simp [List.mem_cons, hij]
theorem lock_len (L : List Nat) (s : St) : (lock L s).length = s.length := by
  induction L generalizing s with
  | nil => rfl
  | cons j L ih => unfold lock; rw [ih]; unfold lockAt; split <;> simp
theorem unlock_len (L : List Nat) (s : St) : (unlock L s).length = s.length := by
  induction L generalizing s with
  | nil => rfl
  | cons j L ih => unfold unlock; rw [ih]; unfold unlockAt; split <;> simp
theorem lent_at : ∀ {rs : List R} {s : St} {i : Nat}, i ∈ lent rs s → ∃ p xs, s[i]? = some (some (.l p xs))
  | [], _, _, h => by simp [lent] at h
  | .v _ :: rs, s, i, h => lent_at (rs := rs) (by simpa [lent] using h)
  | .r j :: rs, s, i, h => by
    unfold lent at h
    split at h
    · rename_i p xs q
      rcases List.mem_cons.mp h with e | h
      · subst e; exact ⟨_, _, q⟩
      · exact lent_at h
    · exact lent_at h
theorem lock_cases {L : List Nat} {s : St} {i : Nat} {o : O} (h : (lock L s)[i]? = some (some o)) : (s[i]? = some (some o) ∧ (i ∈ L → ∀ p xs, o ≠ .l p xs)) ∨ (i ∈ L ∧ ∃ p xs, s[i]? = some (some (.l p xs)) ∧ o = .k p xs) := by
  rw [lock_at] at h
  split at h
  · rename_i hi
    cases q : s[i]? with
    | none => rw [q] at h; cases h
    | some z =>
      rw [q] at h
      cases z with
      | none => cases h
      | some z =>
        cases z with
        | d x => cases h; exact .inl ⟨rfl, fun _ _ _ z => by cases z⟩
        | k p xs => cases h; exact .inl ⟨rfl, fun _ _ _ z => by cases z⟩
        | l p xs => cases h; exact .inr ⟨hi, p, xs, rfl, rfl⟩
  · rename_i hi
    exact .inl ⟨h, fun z => absurd z hi⟩
theorem unlock_cases {L : List Nat} {s : St} {i : Nat} {o : O} (h : (unlock L s)[i]? = some (some o)) : (s[i]? = some (some o) ∧ (i ∈ L → ∀ p xs, o ≠ .k p xs)) ∨ (i ∈ L ∧ ∃ p xs, s[i]? = some (some (.k p xs)) ∧ o = .l p xs) := by
  rw [unlock_at] at h
  split at h
  · rename_i hi
    cases q : s[i]? with
    | none => rw [q] at h; cases h
    | some z =>
      rw [q] at h
      cases z with
      | none => cases h
      | some z =>
        cases z with
        | d x => cases h; exact .inl ⟨rfl, fun _ _ _ z => by cases z⟩
        | l p xs => cases h; exact .inl ⟨rfl, fun _ _ _ z => by cases z⟩
        | k p xs => cases h; exact .inr ⟨hi, p, xs, rfl, rfl⟩
  · rename_i hi
    exact .inl ⟨h, fun z => absurd z hi⟩
theorem Ok.lock (k : Ok σ st Hs H) (L : List Nat) : Ok σ (lock L st) Hs H := by
  refine ⟨by rw [lock_len]; exact k.len, k.sub, fun i o q => ?_, fun i j p xs o a q1 q2 hh q3 q4 => ?_⟩
  · rcases lock_cases q with ⟨q, _⟩ | ⟨_, p, xs, z, rfl⟩
    · exact k.rep i o q
    · exact k.rep i (O.l p xs) z
  · have b1 : ∃ zs, st[i]? = some (some (.l p zs)) := by
      rcases lock_cases q1 with ⟨q, _⟩ | ⟨_, p', xs', q, z⟩
      · exact ⟨_, q⟩
      · cases z
    have b2 : ∃ o2, st[j]? = some (some o2) ∧ held o2 = true := by
      rcases lock_cases q2 with ⟨q, _⟩ | ⟨_, p', xs', q, z⟩
      · exact ⟨_, q, hh⟩
      · exact ⟨_, q, rfl⟩
    obtain ⟨zs, b1⟩ := b1
    obtain ⟨o2, b2, h2⟩ := b2
    exact k.inj i j p zs o2 a b1 b2 h2 q3 q4
theorem unlock_ok {L : List Nat} (hL : ∀ i ∈ L, ∃ p xs, st[i]? = some (some (.l p xs))) (k : Ok σ st Hs H) (f : Fr σ (lock L st) Hs H σ1 st1 Hs1 H1) (k1 : Ok σ1 st1 Hs1 H1) :
    Ok σ1 (unlock L st1) Hs1 H1 ∧ Fr σ st Hs H σ1 (unlock L st1) Hs1 H1 := by
  have ownL : ∀ a, Own σ (lock L st) a → Own σ st a := fun a ⟨i, p, xs, q1, q2⟩ => by
    rcases lock_cases q1 with ⟨q, _⟩ | ⟨_, p', xs', q, z⟩
    · exact ⟨i, p, xs, q, q2⟩
    · cases z
  -- a slot that is unlocked stands as it was
  have at_ : ∀ {i p xs}, i ∈ L → st1[i]? = some (some (.k p xs)) → st[i]? = some (some (.l p xs)) ∧ σ1[i]? = σ[i]? := fun {i p xs} hi q => by
    obtain ⟨q1, e⟩ := f.kk i p xs q
    refine ⟨?_, e⟩
    rcases lock_cases q1 with ⟨q2, _⟩ | ⟨_, p', xs', q2, z⟩
    · obtain ⟨p2, xs2, q3⟩ := hL i hi
      rw [q2] at q3; cases q3
    · cases z; exact q2
  refine ⟨⟨by rw [unlock_len]; exact k1.len, k1.sub, fun i o q => ?_, fun i j p xs o a q1 q2 hh q3 q4 => ?_⟩, ⟨f.sub, fun a o h n => f.keep a o h fun z => n (ownL a z), f.dom, fun a z => ?_, fun a h n e => f.shr a h (fun z => n (ownL a z)) e, fun i p xs q => ?_, fun i xs q => ?_, fun i xs q => ?_, fun i o q => ?_, by rw [unlock_len, f.sz, lock_len]⟩⟩
  · rcases unlock_cases q with ⟨q, _⟩ | ⟨_, p, xs, z, rfl⟩
    · exact k1.rep i o q
    · exact k1.rep i (O.k p xs) z
  · have b2 : ∃ o2, st1[j]? = some (some o2) ∧ held o2 = true := by
      rcases unlock_cases q2 with ⟨q, _⟩ | ⟨_, p', xs', q, z⟩
      · exact ⟨_, q, hh⟩
      · exact ⟨_, q, rfl⟩
    obtain ⟨o2, b2, h2⟩ := b2
    rcases unlock_cases q1 with ⟨q, _⟩ | ⟨hi, p', xs', q, z⟩
    · exact k1.inj i j p xs o2 a q b2 h2 q3 q4
    · cases z
      obtain ⟨a1, a2⟩ := at_ hi q
      have s3 : σ[i]? = some (some (.ref a)) := by rw [← a2]; exact q3
      have ha : ∃ vs, H a = some (.lst vs) := by
        obtain ⟨_, vs, e1, e2, _⟩ := k.lst_at a1 s3
        cases e1; exact ⟨vs, e2⟩
      obtain ⟨vs, ha⟩ := ha
      cases o2 with
      | d x => cases h2
      | l p2 xs2 =>
        rcases f.own a ⟨j, p2, xs2, b2, q4⟩ with z | z
        · obtain ⟨j0, p3, xs3, w1, w2⟩ := z
          rcases lock_cases w1 with ⟨w, wn⟩ | ⟨_, p', xs', w, z⟩
          · have e0 := k.inj j0 i p3 xs3 _ a w a1 rfl w2 s3
            subst e0
            exact absurd rfl (wn hi p3 xs3)
          · cases z
        · rw [ha] at z; cases z
      | k p2 xs2 =>
        obtain ⟨w1, w2⟩ := f.kk j p2 xs2 b2
        have w3 : σ[j]? = some (some (.ref a)) := by rw [← w2]; exact q4
        rcases lock_cases w1 with ⟨w, _⟩ | ⟨_, p', xs', w, _⟩
        · exact k.inj i j _ _ _ a a1 w rfl s3 w3
        · exact k.inj i j _ _ _ a a1 w rfl s3 w3
  · obtain ⟨i, p, xs, q1, q2⟩ := z
    rcases unlock_cases q1 with ⟨q, _⟩ | ⟨hi, p', xs', q, z⟩
    · rcases f.own a ⟨i, p, xs, q, q2⟩ with z | z
      · exact .inl (ownL a z)
      · exact .inr z
    · obtain ⟨a1, a2⟩ := at_ hi q
      exact .inl ⟨i, _, _, a1, by rw [← a2]; exact q2⟩
  · rcases unlock_cases q with ⟨q, n⟩ | ⟨_, p', xs', q, z⟩
    · obtain ⟨q1, e⟩ := f.kk i p xs q
      rcases lock_cases q1 with ⟨q2, _⟩ | ⟨hi, p', xs', q2, z⟩
      · exact ⟨q2, e⟩
      · exact absurd rfl (n hi p xs)
    · cases z
  · have ni : i ∉ L := fun hi => by
      obtain ⟨p, ys, z⟩ := hL i hi
      rw [q] at z; cases z
    obtain ⟨a, b⟩ := f.kp i xs (by rw [lock_at, if_neg ni]; exact q)
    exact ⟨by rw [unlock_at, if_neg ni]; exact a, b⟩
  · by_cases hi : i ∈ L
    · obtain ⟨a, b⟩ := f.kp i xs (by rw [lock_at, if_pos hi, q]; rfl)
      exact ⟨xs, by rw [unlock_at, if_pos hi, a]; rfl, b⟩
    · obtain ⟨ys, a, b⟩ := f.lp i xs (by rw [lock_at, if_neg hi]; exact q)
      exact ⟨ys, by rw [unlock_at, if_neg hi]; exact a, b⟩
  · have b : ∃ o2, (Itp.lock L st)[i]? = some (some o2) := by
      rw [lock_at]
      split
      · rw [q]; cases o <;> exact ⟨_, rfl⟩
      · exact ⟨_, q⟩
    obtain ⟨o2, b⟩ := b
    obtain ⟨o3, c⟩ := f.bd i o2 b
    rw [unlock_at]
    split
    · rw [c]; cases o3 <;> exact ⟨_, rfl⟩
    · exact ⟨_, c⟩
theorem RRep.unlock {L : List Nat} {v : V} {r : R} (h : RRep σ st Hs H v r) : RRep σ (unlock L st) Hs H v r := by
  cases r with
  | r i =>
    obtain ⟨e, o, q⟩ := h
    refine ⟨e, ?_⟩
    rw [unlock_at]
    split
    · rw [q]; cases o <;> exact ⟨_, rfl⟩
    · exact ⟨_, q⟩
  | v o =>
    cases o with
    | d x => exact h
    | k p xs => exact h
    | l p xs =>
      obtain ⟨a, vs, e, h1, h2, h3, h4⟩ := h
      refine ⟨a, vs, e, h1, h2, h3, fun ⟨i, o, q1, q2, q3⟩ => h4 ?_⟩
      rcases unlock_cases q1 with ⟨q, _⟩ | ⟨_, p', xs', q, z⟩
      · exact ⟨i, o, q, q2, q3⟩
      · exact ⟨i, _, q, rfl, q3⟩
theorem RRep.lock {L : List Nat} {v : V} {r : R} (h : RRep σ st Hs H v r) : RRep σ (lock L st) Hs H v r := by
  cases r with
  | r i =>
    obtain ⟨e, o, q⟩ := h
    refine ⟨e, ?_⟩
    rw [lock_at]
    split
    · rw [q]; cases o <;> exact ⟨_, rfl⟩
    · exact ⟨_, q⟩
  | v o =>
    cases o with
    | d x => exact h
    | k p xs => exact h
    | l p xs =>
      obtain ⟨a, vs, e, h1, h2, h3, h4⟩ := h
      refine ⟨a, vs, e, h1, h2, h3, fun ⟨i, o, q1, q2, q3⟩ => h4 ?_⟩
      rcases lock_cases q1 with ⟨q, _⟩ | ⟨_, p', xs', q, z⟩
      · exact ⟨i, o, q, q2, q3⟩
      · exact ⟨i, _, q, rfl, q3⟩
end
end Itp

namespace Itp
variable [KF]
open PySem PySem.Spec PyProof.Rows
open L2 (V Hp HO upd upd_same upd_ne ne_of ne_of_none Same Cx Inv OpR CallR MtR IxR SlR PSet TruR Room RelV EP VK SqL SqT Dp DpAll)
/-! ### by values -/
theorem line_eq : (line : Nat) = sizeLine := by rw [sizeLine_eq]
mutual
theorem Sh.dp {K : PySem.W.Frag} {H : Hp} : ∀ {x : D} {v : V}, Sh H x v → x.plain = true → Dp K H v x.py
  | .non, _, h, _ => by cases (show _ = V.non from h); exact .non
  | .bl b, _, h, _ => by cases (show _ = V.bl b from h); exact .bl b
  | .int i, _, h, _ => by cases (show _ = V.int i from h); exact .int i
  | .str s, _, h, _ => by cases (show _ = V.str s from h); exact .str s
  | .ty n, _, _, p => by simp [D.plain] at p
  | .frz xs, _, _, p => by simp [D.plain] at p
  | .lst xs, _, h, p => by
    obtain ⟨a, vs, rfl, e, r⟩ := h
    exact .lst (SqL.of e) (ShA.dp r (by simpa [D.plain] using p))
  | .tup xs, _, h, p => by
    obtain ⟨a, vs, rfl, e, r⟩ := h
    exact .tup (SqT.of e) (ShA.dp r (by simpa [D.plain] using p))
theorem ShA.dp {K : PySem.W.Frag} {H : Hp} : ∀ {xs : List D} {vs : List V}, ShA H xs vs → D.plainAll xs = true → DpAll K H vs (D.pyAll xs)
  | [], _, h, _ => by cases (show _ = [] from h); exact .nil
  | x :: xs, _, h, p => by
    obtain ⟨v, r, rfl, q, t⟩ := h
    have p : (x.plain && D.plainAll xs) = true := p
    rw [Bool.and_eq_true] at p
    exact .cons (Sh.dp q p.1) (ShA.dp t p.2)
end
section
variable {X : Cx} {k : Nat}
/-- two things that are read, an operation, what it gives -/
def rBin (f : D → D → (O → Prop) → Prop) : L2.R2 := fun x y H Q => ∃ Hs dx dy, Same Hs H ∧ RV Hs H dx x ∧ RV Hs H dy y ∧ f dx dy fun z => ∀ v H' Hs', Grow Hs H Hs' H' z v → Q v H'
def rCmp (f : D → D → (Bool → Prop) → Prop) : L2.R2 := fun x y H Q => ∃ Hs dx dy, Same Hs H ∧ RV Hs H dx x ∧ RV Hs H dy y ∧ f dx dy fun z => Q (.bl z) H
theorem ShA.rep {Hs : Hp} {xs : List D} {vs : List V} (h : ShA Hs xs vs) : ∀ n : Nat, ShA Hs (List.replicate n xs).flatten (List.replicate n vs).flatten
  | 0 => rfl
  | n + 1 => by
    rw [List.replicate_succ, List.replicate_succ, List.flatten_cons, List.flatten_cons]
    exact h.app (ShA.rep h n)
theorem mulOk_of {a : Str} {n : Int} (h : 0 ≤ n ∧ n ≤ line ∧ a.length * n.toNat ≤ line) : MulOk a n := by
  have h1 : n ≤ (16777216 : Nat) := h.2.1
  have h2 : a.length * n.toNat ≤ 16777216 := h.2.2
  have h0 := h.1
  refine ⟨by simp; omega, fun p _ => ?_, fun _ _ => ?_⟩
  · obtain ⟨m, rfl⟩ := Int.eq_ofNat_of_zero_le h0
    have hm : 1 ≤ m := by omega
    have h3 : a.length * m ≤ 16777216 := h2
    have h4 : a.length ≤ a.length * m := Nat.le_mul_of_pos_right _ hm
    have h5 : (16777216 : Int) ≤ (2 ^ 63 - 1) / (m : Int) := by
      refine (Int.le_ediv_iff_mul_le (by omega)).mpr ?_
      have : (m : Int) ≤ 16777216 := by omega
      omega
    omega
  · have h3 : a.length * n.toNat ≤ sizeLine := by rw [← line_eq]; exact h2
    simpa [Builtin.Str.tooLong] using h3
theorem dec_int (i j : Int) : decide ((V.int i : V) = V.int j) = decide (i = j) := decide_eq_decide.mpr (by simp)
theorem dec_str (i j : Str) : decide ((V.str i : V) = V.str j) = decide (i = j) := decide_eq_decide.mpr (by simp)
theorem binop_R {op : Operator} : OpR X (binaryOp op) (rBin (binop op)) := by
  intro pins s σ H x y v u Q I rx ry h
  obtain ⟨Hs, dx, dy, sub, hx, hy, h⟩ := h
  unfold binop at h
  split at h
  · cases (show x = _ from hx); cases (show y = _ from hy)
    exact L2.op_add pins s σ H _ _ v u Q I rx ry ⟨_, _, rfl, rfl, h _ _ _ (.sc rfl)⟩
  · cases (show x = _ from hx); cases (show y = _ from hy)
    exact L2.op_add_str pins s σ H _ _ v u Q I rx ry ⟨_, _, rfl, rfl, by rw [← line_eq]; exact h.1, h.2 _ _ _ (.sc rfl)⟩
  · obtain ⟨a, vs, rfl, h1, h2⟩ := hx
    obtain ⟨b, ws, rfl, h3, h4⟩ := hy
    have l1 := h2.len
    have l2 := h4.len
    refine L2.op_catA pins s σ H _ _ v u Q I rx ry ⟨a, b, vs, ws, rfl, rfl, SqT.of (sub _ _ h1), SqT.of (sub _ _ h3), by rw [← line_eq, ← l1, ← l2]; exact h.1, fun e => ?_, fun n e => ?_, fun n n2 p hp => ?_⟩
    · subst e
      rename_i xs ys
      have e1 : xs = [] := List.length_eq_zero_iff.mp (by simpa using l1)
      subst e1
      exact h.2 _ _ _ (.sc ⟨b, ws, rfl, h3, h4⟩)
    · subst e
      rename_i xs ys
      have e1 : ys = [] := List.length_eq_zero_iff.mp (by simpa using l2)
      subst e1
      rw [List.append_nil] at h
      exact h.2 _ _ _ (.sc ⟨a, vs, rfl, h1, h2⟩)
    · exact h.2 _ _ _ (.tup sub hp (h2.app h4))
  · obtain ⟨a, vs, rfl, h1, h2⟩ := hx
    obtain ⟨b, ws, rfl, h3, h4⟩ := hy
    have l1 := h2.len
    have l2 := h4.len
    exact L2.op_cat pins s σ H _ _ v u Q I rx ry ⟨a, b, vs, ws, rfl, rfl, h1, h3, by rw [← line_eq, ← l1, ← l2]; exact h.1, fun p hp => h.2 _ _ _ (.lst hp (h2.app h4))⟩
  · cases (show x = _ from hx); cases (show y = _ from hy)
    exact L2.op_sub pins s σ H _ _ v u Q I rx ry ⟨_, _, rfl, rfl, h _ _ _ (.sc rfl)⟩
  · cases (show x = _ from hx); cases (show y = _ from hy)
    obtain ⟨c, h⟩ := h
    rcases c with c | c | c
    · exact L2.op_mul pins s σ H _ _ v u Q I rx ry ⟨_, _, rfl, rfl, .inl c, h _ _ _ (.sc rfl)⟩
    · exact L2.op_mul pins s σ H _ _ v u Q I rx ry ⟨_, _, rfl, rfl, .inr c, h _ _ _ (.sc rfl)⟩
    · exact L2.op_mulW pins s σ H _ _ v u Q I rx ry ⟨_, _, rfl, rfl, L2.wide_mul c.1 c.2 (by decide) (by decide) (by decide), h _ _ _ (.sc rfl)⟩
  · cases (show x = _ from hx); cases (show y = _ from hy)
    obtain ⟨c, h⟩ := h
    obtain ⟨t, rfl⟩ := rx
    obtain ⟨t', rfl⟩ := ry
    exact PySem.SB.mul (mulOk_of c) fun t' tk => ⟨.str _, H, I.tok _, ⟨_, rfl⟩, h _ _ _ (.sc rfl)⟩
  · obtain ⟨a, vs, rfl, h1, h2⟩ := hx
    cases (show y = _ from hy)
    obtain ⟨⟨c1, c2, c3⟩, h⟩ := h
    have c2 : _ ≤ ((16777216 : Nat) : Int) := c2
    exact L2.op_rep pins s σ H _ _ v u Q I rx ry ⟨a, _, vs, rfl, rfl, h1, by omega, by omega, by rw [← h2.len, ← line_eq]; exact c3, fun p hp => h _ _ _ (.lst hp (h2.rep _))⟩
  · cases (show x = _ from hx); cases (show y = _ from hy)
    obtain ⟨c, h⟩ := h
    exact L2.op_fdivW pins s σ H _ _ v u Q I rx ry ⟨_, _, rfl, rfl, L2.wide_div c.1 c.2 (by decide) (by decide), h _ _ _ (.sc rfl)⟩
  · cases (show x = _ from hx); cases (show y = _ from hy)
    exact L2.op_mod pins s σ H _ _ v u Q I rx ry ⟨_, _, rfl, rfl, h.1, h.2 _ _ _ (.sc rfl)⟩
  · cases (show x = _ from hx); cases (show y = _ from hy)
    exact L2.op_pow pins s σ H _ _ v u Q I rx ry ⟨_, _, rfl, rfl, h.1, h.2 _ _ _ (.sc rfl)⟩
  · exact h.elim
theorem iop_R {op : Operator} : OpR X (inplaceOp op) (rBin (iop op)) := by
  intro pins s σ H x y v u Q I rx ry h
  obtain ⟨Hs, dx, dy, sub, hx, hy, h⟩ := h
  unfold iop at h
  split at h
  · cases (show x = _ from hx); cases (show y = _ from hy)
    exact L2.iop_add pins s σ H _ _ v u Q I rx ry ⟨_, _, rfl, rfl, h _ _ _ (.sc rfl)⟩
  · cases (show x = _ from hx); cases (show y = _ from hy)
    exact L2.iop_add_str pins s σ H _ _ v u Q I rx ry ⟨_, _, rfl, rfl, by rw [← line_eq]; exact h.1, h.2 _ _ _ (.sc rfl)⟩
  · cases (show x = _ from hx); cases (show y = _ from hy)
    exact L2.iop_sub pins s σ H _ _ v u Q I rx ry ⟨_, _, rfl, rfl, h _ _ _ (.sc rfl)⟩
  · cases (show x = _ from hx); cases (show y = _ from hy)
    exact L2.iop_mul pins s σ H _ _ v u Q I rx ry ⟨_, _, rfl, rfl, h.1, h.2 _ _ _ (.sc rfl)⟩
  · exact h.elim
theorem cmpop_R {op : CmpOp} (hr : Room k X.A) : OpR X (compareOp op) (rCmp (cmpop op)) := by
  intro pins s σ H x y v u Q I rx ry h
  obtain ⟨Hs, dx, dy, sub, hx, hy, h⟩ := h
  have hu := hr.units
  have hu2 : X.A.units + 65 < cLine := by have := hr.un; omega
  unfold cmpop at h
  split at h
  · cases (show x = _ from hx); cases (show y = _ from hy)
    exact L2.op_eq pins s σ H _ _ v u Q I rx ry ⟨rfl, by rw [dec_int]; exact h⟩
  · cases (show x = _ from hx); cases (show y = _ from hy)
    exact L2.op_eq pins s σ H _ _ v u Q I rx ry ⟨rfl, by rw [dec_str]; exact h⟩
  · cases (show x = _ from hx); cases (show y = _ from hy)
    exact L2.op_ne pins s σ H _ _ v u Q I rx ry ⟨rfl, by rw [dec_int]; exact h⟩
  · cases (show x = _ from hx); cases (show y = _ from hy)
    exact L2.op_ne pins s σ H _ _ v u Q I rx ry ⟨rfl, by rw [dec_str]; exact h⟩
  · obtain ⟨p1, p2, h⟩ := h
    exact L2.op_eqD hu pins s σ H _ _ v u Q I rx ry ⟨_, _, (hx.sh sub).dp p1.1, (hy.sh sub).dp p2.1, p1.2, p2.2, h⟩
  · obtain ⟨p1, p2, h⟩ := h
    exact L2.op_neD hu pins s σ H _ _ v u Q I rx ry ⟨_, _, (hx.sh sub).dp p1.1, (hy.sh sub).dp p2.1, p1.2, p2.2, h⟩
  · cases (show x = _ from hx); cases (show y = _ from hy)
    exact L2.op_lt pins s σ H _ _ v u Q I rx ry ⟨_, _, rfl, rfl, h⟩
  · cases (show x = _ from hx); cases (show y = _ from hy)
    exact L2.op_le pins s σ H _ _ v u Q I rx ry ⟨_, _, rfl, rfl, h⟩
  · cases (show x = _ from hx); cases (show y = _ from hy)
    exact L2.op_gt pins s σ H _ _ v u Q I rx ry ⟨_, _, rfl, rfl, h⟩
  · cases (show x = _ from hx); cases (show y = _ from hy)
    exact L2.op_ge pins s σ H _ _ v u Q I rx ry ⟨_, _, rfl, rfl, h⟩
  · cases (show x = _ from hx); cases (show y = _ from hy)
    exact L2.op_lt_str pins s σ H _ _ v u Q I rx ry ⟨_, _, rfl, rfl, h⟩
  · cases (show x = _ from hx); cases (show y = _ from hy)
    exact L2.op_le_str pins s σ H _ _ v u Q I rx ry ⟨_, _, rfl, rfl, h⟩
  · cases (show x = _ from hx); cases (show y = _ from hy)
    exact L2.op_gt_str pins s σ H _ _ v u Q I rx ry ⟨_, _, rfl, rfl, h⟩
  · cases (show x = _ from hx); cases (show y = _ from hy)
    exact L2.op_ge_str pins s σ H _ _ v u Q I rx ry ⟨_, _, rfl, rfl, h⟩
  · cases (show y = _ from hy)
    refine L2.op_isN pins s σ H _ _ v u Q I rx ry ⟨rfl, ?_⟩
    have e : decide (x = V.non) = dx.isNon := by
      cases dx with
      | non => cases (show x = _ from hx); rfl
      | bl b => cases (show x = _ from hx); rfl
      | int b => cases (show x = _ from hx); rfl
      | str b => cases (show x = _ from hx); rfl
      | ty b => cases (show x = _ from hx); rfl
      | lst b => obtain ⟨a, vs, rfl, _⟩ := hx; rfl
      | tup b => obtain ⟨a, vs, rfl, _⟩ := hx; rfl
      | frz b => obtain ⟨a, vs, rfl, _⟩ := hx; rfl
    rw [e]; exact h
  · cases (show y = _ from hy)
    refine L2.op_notN pins s σ H _ _ v u Q I rx ry ⟨rfl, ?_⟩
    have e : (!decide (x = V.non)) = !dx.isNon := by
      cases dx with
      | non => cases (show x = _ from hx); rfl
      | bl b => cases (show x = _ from hx); rfl
      | int b => cases (show x = _ from hx); rfl
      | str b => cases (show x = _ from hx); rfl
      | ty b => cases (show x = _ from hx); rfl
      | lst b => obtain ⟨a, vs, rfl, _⟩ := hx; rfl
      | tup b => obtain ⟨a, vs, rfl, _⟩ := hx; rfl
      | frz b => obtain ⟨a, vs, rfl, _⟩ := hx; rfl
    rw [e]; exact h
  · cases (show x = _ from hx); cases (show y = _ from hy)
    exact L2.op_isBl pins s σ H _ _ v u Q I rx ry ⟨_, _, rfl, rfl, h⟩
  · cases (show x = _ from hx); cases (show y = _ from hy)
    exact L2.op_notBl pins s σ H _ _ v u Q I rx ry ⟨_, _, rfl, rfl, h⟩
  · obtain ⟨p1, p2, h⟩ := h
    have q2 : Dp X.K H y (.list _) := (hy.sh sub).dp p2.1
    exact L2.op_inD hu2 pins s σ H _ _ v u Q I rx ry ⟨_, _, (hx.sh sub).dp p1.1, q2, p1.2, p2.2, h⟩
  · obtain ⟨p1, p2, h⟩ := h
    have q2 : Dp X.K H y (.list _) := (hy.sh sub).dp p2.1
    exact L2.op_notInD hu2 pins s σ H _ _ v u Q I rx ry ⟨_, _, (hx.sh sub).dp p1.1, q2, p1.2, p2.2, h⟩
  · cases (show x = _ from hx); cases (show y = _ from hy)
    obtain ⟨c, rfl, h⟩ := h
    exact L2.op_in_sign pins s σ H _ _ v u Q I rx ry ⟨c, _, rfl, rfl, h⟩
  · cases (show x = _ from hx); cases (show y = _ from hy)
    obtain ⟨c, rfl, h⟩ := h
    exact L2.op_notIn_sign pins s σ H _ _ v u Q I rx ry ⟨c, _, rfl, rfl, h⟩
  · exact h.elim
theorem truth_R {H Hs : Hp} {x : D} {v : V} {K : PySem.W.Frag} {Q : Bool → Prop} (sub : Same Hs H) (hx : RV Hs H x v) (h : truth x Q) : ∃ k, L2.TruV K v H k ∧ Q k := by
  unfold truth at h
  split at h
  · cases (show v = _ from hx); exact ⟨_, rfl, h⟩
  · cases (show v = _ from hx); exact ⟨_, rfl, h⟩
  · cases (show v = _ from hx); exact ⟨_, rfl, h⟩
  · cases (show v = _ from hx); exact ⟨_, ⟨by rw [← line_eq]; exact h.1, rfl⟩, h.2⟩
  · rename_i xs
    obtain ⟨a, vs, rfl, h1, h2⟩ := hx
    refine ⟨_, .inl ⟨vs, SqL.of h1, rfl⟩, ?_⟩
    have e : vs.isEmpty = xs.isEmpty := by
      have := h2.len
      cases vs <;> cases xs <;> simp_all
    rw [e]; exact h
  · rename_i xs
    obtain ⟨a, vs, rfl, h1, h2⟩ := hx
    refine ⟨_, .inr (.inl ⟨vs, SqT.of (sub _ _ h1), rfl⟩), ?_⟩
    have e : vs.isEmpty = xs.isEmpty := by
      have := h2.len
      cases vs <;> cases xs <;> simp_all
    rw [e]; exact h
  · exact h.elim
theorem atI_sh {Hs : Hp} {xs : List D} {vs : List V} {i : Int} {z : D} (h : ShA Hs xs vs) (e : L2.atI xs i = some z) : ∃ w, L2.atI vs i = some w ∧ Sh Hs z w := by
  unfold L2.atI at e ⊢
  rw [← h.len]
  cases q : L2.ixN xs.length i with
  | none => rw [q] at e; cases e
  | some j =>
    rw [q] at e
    exact h.get e
def rIdx : L2.R2 := fun x y H Q => ∃ Hs dx dy, Same Hs H ∧ RV Hs H dx x ∧ RV Hs H dy y ∧ index dx dy fun z => ∀ v, Sh Hs z v → Q v H
theorem index_R : IxR X rIdx := by
  intro va sl pins s σ H x y v u Q I rx ry h hs
  obtain ⟨Hs, dx, dy, sub, hx, hy, h⟩ := h
  unfold index at h
  split at h
  · obtain ⟨z, e, h⟩ := h
    obtain ⟨a, vs, rfl, h1, h2⟩ := hx
    cases (show y = _ from hy)
    obtain ⟨w, e2, sh⟩ := atI_sh h2 e
    exact L2.ix_list va sl pins s σ H _ _ v u Q I rx ry ⟨a, vs, _, w, rfl, rfl, SqL.of h1, e2, h w sh⟩ hs
  · obtain ⟨z, e, h⟩ := h
    obtain ⟨a, vs, rfl, h1, h2⟩ := hx
    cases (show y = _ from hy)
    obtain ⟨w, e2, sh⟩ := atI_sh h2 e
    exact L2.ix_tup va sl pins s σ H _ _ v u Q I rx ry ⟨a, vs, _, w, rfl, rfl, SqT.of (sub _ _ h1), e2, h w sh⟩ hs
  · obtain ⟨l, c, e, h⟩ := h
    cases (show x = _ from hx); cases (show y = _ from hy)
    exact L2.ix_str va sl pins s σ H _ _ v u Q I rx ry ⟨_, _, c, rfl, rfl, by rw [← line_eq]; exact l, e, h _ rfl⟩ hs
  · exact h.elim
def rSlc : V → Option Int → Option Int → Hp → VK → Prop := fun x lo hi H Q => ∃ Hs dx, Same Hs H ∧ RV Hs H dx x ∧ slice dx lo hi fun z => ∀ v H' Hs', Grow Hs H Hs' H' z v → Q v H'
theorem slice_R (hK : X.K = KF.k) : SlR X rSlc := by
  have all : SlR X (fun x lo hi H Q => L2.rSlL X.K x lo hi H Q ∨ (L2.rSlA X.K x lo hi H Q ∨ L2.rSlS x lo hi H Q)) := L2.sl_list.or (L2.sl_tupA.or L2.sl_str)
  have imp : ∀ x lo hi H Q, rSlc x lo hi H Q → L2.rSlL X.K x lo hi H Q ∨ (L2.rSlA X.K x lo hi H Q ∨ L2.rSlS x lo hi H Q) := by
    intro x lo hi H Q h
    obtain ⟨Hs, dx, sub, hx, h⟩ := h
    unfold slice at h
    split at h
    · obtain ⟨a, vs, rfl, h1, h2⟩ := hx
      exact .inl ⟨a, vs, rfl, SqL.of h1, fun p hp => h _ _ _ (.lst hp (h2.cut lo hi))⟩
    · obtain ⟨a, vs, rfl, h1, h2⟩ := hx
      exact .inl ⟨a, vs, rfl, by rw [hK]; exact L2.Same.seq sub h1, fun p hp => h _ _ _ (.lst hp (h2.cut lo hi))⟩
    · rename_i xs
      obtain ⟨a, vs, rfl, h1, h2⟩ := hx
      refine .inr (.inl ⟨a, vs, rfl, SqT.of (sub _ _ h1), fun e => ?_, fun n p hp => h _ _ _ (.tup sub hp (h2.cut lo hi))⟩)
      have ec : cut xs lo hi = xs := by
        unfold cut
        rw [h2.len, e.1, e.2, ← h2.len]
        simp
      rw [ec] at h
      exact h _ _ _ (.sc ⟨a, vs, rfl, h1, h2⟩)
    · cases (show x = _ from hx)
      exact .inr (.inr ⟨_, rfl, by rw [← line_eq]; exact h.1, h.2 _ _ _ (.sc rfl)⟩)
    · exact h.elim
  intro pins s σ H x lo hi v vl vu
  intro sl Q I rx hx hl hu q
  first
    | exact all pins s σ H x lo hi v vl vu sl Q I rx hx hl hu (imp _ _ _ _ _ q)
    | exact all _ _ _ _ _ _ _ _ _ _ _ _ (by assumption) (by assumption) (by assumption) (by assumption) (imp _ _ _ _ _ (by assumption))
end
end Itp
namespace Itp
variable [KF]
open PySem PySem.Spec PyProof.Rows
open L2 (V Hp HO upd upd_same upd_ne ne_of ne_of_none Same Cx Inv OpR CallR MtR IxR SlR PSet TruR Room RelV EP VK SqL SqT Dp DpAll)
section
variable {X : Cx} {k : Nat}
/-- arguments read as data -/
def RVA (Hs H : Hp) : List D → List V → Prop
  | [], vs => vs = []
  | x :: xs, vs => ∃ v ws, vs = v :: ws ∧ RV Hs H x v ∧ RVA Hs H xs ws
def rBlt (b : B) : List V → Hp → VK → Prop := fun vs H Q => ∃ Hs xs, Same Hs H ∧ RVA Hs H xs vs ∧ bltin b xs fun z => ∀ v H' Hs', Grow Hs H Hs' H' z v → Q v H'
theorem RVA.one {Hs H : Hp} {x : D} {vs : List V} (h : RVA Hs H [x] vs) : ∃ v, vs = [v] ∧ RV Hs H x v := by
  obtain ⟨v, ws, rfl, a, b⟩ := h
  cases (show ws = [] from b)
  exact ⟨v, rfl, a⟩
theorem RVA.two {Hs H : Hp} {x y : D} {vs : List V} (h : RVA Hs H [x, y] vs) : ∃ v w, vs = [v, w] ∧ RV Hs H x v ∧ RV Hs H y w := by
  obtain ⟨v, ws, rfl, a, b⟩ := h
  obtain ⟨w, rfl, c⟩ := RVA.one b
  exact ⟨v, w, rfl, a, c⟩
/-- which built-in function or type it is -/
def bVal : B → Value
  | .len => .builtin "len" | .abs => .builtin "abs" | .max => .builtin "max" | .min => .builtin "min" | .sum => .builtin "sum" | .all => .builtin "all" | .any => .builtin "any"
  | .int => .type "int" | .str => .type "str" | .list => .type "list" | .tuple => .type "tuple" | .repr => .builtin "repr"
  | .lrg => .builtin "len"
mutual
theorem py_noDict : ∀ x : D, x.py.hasDict = false
  | .non => by simp only [D.py, PyData.hasDict]
  | .bl _ => by simp only [D.py, PyData.hasDict]
  | .int _ => by simp only [D.py, PyData.hasDict]
  | .str _ => by simp only [D.py, PyData.hasDict]
  | .lst xs => by simp only [D.py, PyData.hasDict]; exact py_noDictAll xs
  | .tup xs => by simp only [D.py, PyData.hasDict]; exact py_noDictAll xs
  | .ty _ => by simp only [D.py, PyData.hasDict]
  | .frz _ => by simp only [D.py, PyData.hasDict]
theorem py_noDictAll : ∀ xs : List D, PyData.hasDictAll (D.pyAll xs) = false
  | [] => by simp only [D.pyAll, PyData.hasDictAll]
  | x :: xs => by simp only [D.pyAll, PyData.hasDictAll, py_noDict x, py_noDictAll xs, Bool.or_self]
end
theorem repr_R (hg : X.A.guards = some []) (hr : Room k X.A) {x : D} : CallR X (.builtin "repr") fun vs H Q => ∃ v, vs = [v] ∧ Dp X.K H v x.py ∧ x.py.showable = true ∧ x.py.shown.length ≤ line ∧ x.py.depth ≤ 60 ∧ Q (.str x.py.shown) H := by
  intro pins s σ H vs us Q I r h
  obtain ⟨v, rfl, dp, sh, ln, d60, q⟩ := h
  obtain ⟨u, rfl, ru⟩ : ∃ u, us = [u] ∧ RelV v u := by
    cases r with
    | cons r1 r2 => cases r2; exact ⟨_, rfl, r1⟩
  obtain ⟨as, rd⟩ := L2.Dp.reads I _ _ _ dp ru
  have nd := py_noDict x
  have hu := hr.un
  have ln : x.py.shown.length ≤ sizeLine := by rw [← line_eq]; exact ln
  clear dp ru
  generalize x.py = d at rd nd sh ln d60 q
  have viaRef : ∀ a, u = .ref a → wpAny (model X.prog X.w) X.A (PySem.call (.builtin "repr") [u]) (EP X pins σ Q) X.xe s := by
    rintro a rfl
    exact repr_of_reads' rd sh (PyData.noDict_hsm nd) hg (by omega) (fun _ _ e => e) (fun h' u tk hk => ⟨.str _, H, I.kept hk, ⟨_, rfl⟩, q⟩) ln
  cases rd with
  | none => exact PySem.P.repr_of_none ⟨.str _, H, I.tok _, ⟨_, rfl⟩, q⟩
  | bool => exact PySem.P.repr_of_bool ⟨.str _, H, I.tok _, ⟨_, rfl⟩, q⟩
  | int => exact PySem.P.repr_of_int (by simpa [PyData.showable] using sh) ⟨.str _, H, I.tok _, ⟨_, rfl⟩, q⟩
  | str => exact PySem.P.repr_of_str ⟨.str _, H, I.tok _, ⟨_, rfl⟩, q⟩ ln
  | _ => exact viaRef _ rfl
theorem bltin_R {b : B} (hb : b ≠ .lrg) (hc : X.calm = true) (hg : X.A.guards = some []) (hr : Room k X.A) : CallR X (bVal b) (rBlt b) := by
  intro pins s σ H vs us Q I r h
  obtain ⟨Hs, xs, sub, hx, h⟩ := h
  unfold bltin at h
  split at h
  · obtain ⟨v, rfl, a, ws, rfl, h1, h2⟩ := hx.one
    exact L2.call_len pins s σ H _ us Q I r ⟨_, ws.length, rfl, .inl ⟨ws, SqL.of h1, rfl⟩, by rw [← h2.len]; exact h _ _ _ (.sc rfl)⟩
  · obtain ⟨v, rfl, a, ws, rfl, h1, h2⟩ := hx.one
    exact L2.call_len pins s σ H _ us Q I r ⟨_, ws.length, rfl, .inr ⟨ws, SqT.of (sub _ _ h1), rfl⟩, by rw [← h2.len]; exact h _ _ _ (.sc rfl)⟩
  · obtain ⟨v, rfl, q⟩ := hx.one
    cases (show v = _ from q)
    exact L2.call_len pins s σ H _ us Q I r ⟨_, _, rfl, ⟨by rw [← line_eq]; exact h.1, rfl⟩, h.2 _ _ _ (.sc rfl)⟩
  · obtain ⟨v, rfl, q⟩ := hx.one
    cases (show v = _ from q)
    exact L2.call_abs pins s σ H _ us Q I r ⟨_, rfl, h _ _ _ (.sc rfl)⟩
  · obtain ⟨v, w, rfl, q, q2⟩ := hx.two
    cases (show v = _ from q); cases (show w = _ from q2)
    exact L2.call_max2 hc pins s σ H _ us Q I r ⟨_, _, rfl, h _ _ _ (.sc rfl)⟩
  · obtain ⟨v, w, rfl, q, q2⟩ := hx.two
    cases (show v = _ from q); cases (show w = _ from q2)
    exact L2.call_min2 hc pins s σ H _ us Q I r ⟨_, _, rfl, h _ _ _ (.sc rfl)⟩
  · obtain ⟨v, rfl, a, ws, rfl, h1, h2⟩ := hx.one
    obtain ⟨ns, e, l, h⟩ := h
    have e2 := h2.ints _ _ _ e
    subst e2
    exact L2.cr_max hc pins s σ H _ us Q I r ⟨a, ns, rfl, SqL.of h1, l, fun m m1 m2 => h m m1 m2 _ _ _ (.sc rfl)⟩
  · obtain ⟨v, rfl, a, ws, rfl, h1, h2⟩ := hx.one
    obtain ⟨ns, e, l, h⟩ := h
    have e2 := h2.ints _ _ _ e
    subst e2
    exact L2.cr_min hc pins s σ H _ us Q I r ⟨a, ns, rfl, SqL.of h1, l, fun m m1 m2 => h m m1 m2 _ _ _ (.sc rfl)⟩
  · obtain ⟨v, rfl, a, ws, rfl, h1, h2⟩ := hx.one
    obtain ⟨ns, e, h⟩ := h
    have e2 := h2.ints _ _ _ e
    subst e2
    exact L2.cr_sum hc pins s σ H _ us Q I r ⟨a, ns, rfl, SqL.of h1, h _ _ _ (.sc rfl)⟩
  · obtain ⟨v, rfl, a, ws, rfl, h1, h2⟩ := hx.one
    obtain ⟨ns, e, h⟩ := h
    have e2 := h2.bools _ _ _ e
    subst e2
    exact L2.cr_all hc pins s σ H _ us Q I r ⟨a, ns, rfl, SqL.of h1, h _ _ _ (.sc rfl)⟩
  · obtain ⟨v, rfl, a, ws, rfl, h1, h2⟩ := hx.one
    obtain ⟨ns, e, h⟩ := h
    have e2 := h2.bools _ _ _ e
    subst e2
    exact L2.cr_any hc pins s σ H _ us Q I r ⟨a, ns, rfl, SqL.of h1, h _ _ _ (.sc rfl)⟩
  · obtain ⟨v, rfl, q⟩ := hx.one
    cases (show v = _ from q)
    exact L2.call_int1 pins s σ H _ us Q I r (.inl ⟨_, rfl, h _ _ _ (.sc rfl)⟩)
  · obtain ⟨v, rfl, q⟩ := hx.one
    cases (show v = _ from q)
    exact L2.call_int1 pins s σ H _ us Q I r (.inr ⟨_, rfl, h _ _ _ (.sc rfl)⟩)
  · obtain ⟨v, rfl, q⟩ := hx.one
    cases (show v = _ from q)
    exact L2.call_str_int pins s σ H _ us Q I r ⟨_, rfl, h.1, h.2 _ _ _ (.sc rfl)⟩
  · obtain ⟨v, rfl, a, ws, rfl, h1, h2⟩ := hx.one
    exact L2.call_list_of pins s σ H _ us Q I r ⟨a, ws, rfl, .inl (SqL.of h1), fun l hl => h _ _ _ (.lst hl h2)⟩
  · obtain ⟨v, rfl, a, ws, rfl, h1, h2⟩ := hx.one
    exact L2.call_list_of pins s σ H _ us Q I r ⟨a, ws, rfl, .inr (SqT.of (sub _ _ h1)), fun l hl => h _ _ _ (.lst hl h2)⟩
  · obtain ⟨v, rfl, a, ws, rfl, h1, h2⟩ := hx.one
    exact L2.call_tuple_of pins s σ H _ us Q I r ⟨a, ws, rfl, .inl ⟨SqL.of h1, fun l hl => h _ _ _ (.tup sub hl h2)⟩⟩
  · obtain ⟨v, rfl, a, ws, rfl, h1, h2⟩ := hx.one
    exact L2.call_tuple_of pins s σ H _ us Q I r ⟨a, ws, rfl, .inr ⟨SqT.of (sub _ _ h1), h _ _ _ (.sc ⟨a, ws, rfl, h1, h2⟩)⟩⟩
  · obtain ⟨v, rfl, q⟩ := hx.one
    obtain ⟨p1, p2, p3, p4, h⟩ := h
    exact repr_R hg hr pins s σ H _ us Q I r ⟨v, rfl, (q.sh sub).dp p1, p2, p3, p4, h _ _ _ (.sc rfl)⟩
  · exact absurd rfl hb
  · exact absurd rfl hb
  · exact h.elim
def rSrt : List V → Hp → VK → Prop := fun vs H Q => ∃ Hs a us xs, vs = [.ref a] ∧ Same Hs H ∧ H a = some (.lst us) ∧ ShA Hs xs us ∧ SrtOk xs ∧ ∀ ws p, ShA Hs (srtD xs) ws → H p = none → Q (.ref p) (upd H p (.lst ws))
theorem each_vals {Hs : Hp} : ∀ {xs : List D} {us : List V} {its : List Value}, ShA Hs xs us → L2.Vals us its → PySem.W.EachIs (fun v b => ∃ x, RelV x v ∧ Sh Hs b x) its xs
  | [], _, _, h, r => by
    cases (show _ = [] from h)
    cases r
    exact .nil
  | x :: xs, _, _, h, r => by
    obtain ⟨v, ws, rfl, a, b⟩ := h
    cases r with
    | cons r1 r2 => exact .cons ⟨v, r1, a⟩ (each_vals b r2)
theorem vals_each {Hs : Hp} : ∀ {xs : List D} {its : List Value}, PySem.W.EachIs (fun v b => ∃ x, RelV x v ∧ Sh Hs b x) its xs → ∃ us, ShA Hs xs us ∧ L2.Vals us its
  | _, _, .nil => ⟨[], rfl, .nil⟩
  | _, _, .cons ⟨x, r, sh⟩ t => by
    obtain ⟨us, a, b⟩ := vals_each t
    exact ⟨x :: us, ⟨x, us, rfl, sh, a⟩, .cons r b⟩
theorem each_reads {X : Cx} {pins : List (Addr × Obj)} {σ : L2.St} {H Hs : Hp} {s : Shared} (I : Inv X pins σ H s) (sub : Same Hs H) : ∀ {xs : List D} {us : List V} {its : List Value}, ShA Hs xs us → L2.Vals us its → (∀ x ∈ xs, x.plain = true) → PySem.W.EachIs (fun v (b : D) => ∃ as, Reads s.heap v b.py as) its xs
  | [], _, _, h, r, _ => by
    cases (show _ = [] from h)
    cases r
    exact .nil
  | x :: xs, _, _, h, r, p => by
    obtain ⟨v, ws, rfl, a, b⟩ := h
    cases r with
    | cons r1 r2 => exact .cons (L2.Dp.reads I _ _ _ (Sh.dp (Sh.mono sub a) (p x List.mem_cons_self)) r1) (each_reads I sub b r2 fun y hy => p y (List.mem_cons_of_mem _ hy))
theorem srt_R (hr : Room k X.A) : CallR X (.builtin "sorted") rSrt := by
  intro pins s σ H vs us Q I r h
  obtain ⟨Hs, a, zs, xs, rfl, sub, e, sh, ⟨ok1, ok2, ok3, ok4⟩, q⟩ := h
  obtain ⟨its, rv, lp, hz⟩ := I.list (SqL.of e)
  obtain ⟨y, rfl, ry⟩ : ∃ y, us = [y] ∧ RelV (.ref a) y := by
    cases r with
    | cons r1 r2 => cases r2; exact ⟨_, rfl, r1⟩
  cases ry
  refine PySem.W.sorted_data lp.isList (each_vals sh rv) (each_reads I sub sh rv fun x hx => (ok1 x hx).1) ok2 ok3 (by rw [← line_eq]; exact ok4) (fun b hb => ?_) fun out lo eo => ?_
  · have h1 := (ok1 b hb).2
    have h2 := hr.un
    omega
  · obtain ⟨ws, sw, rw_⟩ := vals_each eo
    obtain ⟨ep, at_⟩ := PyProof.Rows.sortedAll_at s.heap its (List.toArray out)
    have lw : ws.length ≤ sizeLine := by
      rw [← line_eq, rw_.length, lo]; exact ok4
    exact ⟨.ref _, upd H (s.heap.objs.size + 1) (.lst ws), I.laid (t' := s.toks) (fun _ _ => PyProof.Rows.sortedAll_old) (Nat.le_succ _) ⟨lw, out, ep, rw_, at_⟩, rfl, q ws _ sw (I.hok.fresh (Nat.le_succ _))⟩
def rSrr : List V → List V → Hp → VK → Prop := fun vs zs H Q => ∃ Hs a us xs, vs = [.ref a] ∧ zs = [.bl true] ∧ Same Hs H ∧ H a = some (.lst us) ∧ ShA Hs xs us ∧ SrtOk xs ∧ ∀ ws p, ShA Hs (srtR xs) ws → H p = none → Q (.ref p) (upd H p (.lst ws))
theorem srr_R (hr : Room k X.A) : L2.CallRK X (.builtin "sorted") [Str.ofString "reverse"] rSrr := by
  intro pins s σ H vs zz us ww Q I r rz h
  obtain ⟨Hs, a, zs, xs, rfl, rfl, sub, e, sh, ⟨ok1, ok2, ok3, ok4⟩, q⟩ := h
  obtain ⟨its, rv, lp, hz⟩ := I.list (SqL.of e)
  obtain ⟨y, rfl, ry⟩ : ∃ y, us = [y] ∧ RelV (.ref a) y := by
    cases r with
    | cons r1 r2 => cases r2; exact ⟨_, rfl, r1⟩
  obtain ⟨b, rfl, rb⟩ : ∃ b, ww = [b] ∧ RelV (.bl true) b := by
    cases rz with
    | cons r1 r2 => cases r2; exact ⟨_, rfl, r1⟩
  cases ry
  cases rb
  refine PySem.W.sorted_rev_data lp.isList (each_vals sh rv) (each_reads I sub sh rv fun x hx => (ok1 x hx).1) ok2 ok3 (by rw [← line_eq]; exact ok4) (fun b hb => ?_) fun out lo eo => ?_
  · have h1 := (ok1 b hb).2
    have h2 := hr.un
    omega
  · obtain ⟨ws, sw, rw_⟩ := vals_each eo
    obtain ⟨ep, at_⟩ := PyProof.Rows.sortedAll_at s.heap its (List.toArray out)
    have lw : ws.length ≤ sizeLine := by
      rw [← line_eq, rw_.length, lo]; exact ok4
    exact ⟨.ref _, upd H (s.heap.objs.size + 1) (.lst ws), I.laid (t' := s.toks) (fun _ _ => PyProof.Rows.sortedAll_old) (Nat.le_succ _) ⟨lw, out, ep, rw_, at_⟩, rfl, q ws _ sw (I.hok.fresh (Nat.le_succ _))⟩
def rIsT (t : String) : List V → Hp → VK → Prop := fun vs H Q => ∃ Hs x v, vs = [v, .ty t] ∧ Same Hs H ∧ RV Hs H x v ∧ isTy x t fun z => Q (.bl z) H
def tyNames : List String := ["int", "bool", "str", "list", "tuple", "dict"]
theorem isTy_R {t : String} (ht : t ∈ tyNames) : CallR X (.builtin "isinstance") (rIsT t) := by
  intro pins s σ H vs us Q I r h
  obtain ⟨Hs, x, v, rfl, sub, hx, h⟩ := h
  have kt : ∀ (n : String) (b : Bool), L2.kitB n t = some b → PySem.W.kitOne X.K (.type n) (.type t) = some b := fun n b e => L2.kit_ty e
  have fin : ∀ (n : String) (b : Bool), L2.TyX X.K H v (.type n) → L2.kitB n t = some b → Q (.bl b) H → wpAny (model X.prog X.w) X.A (PySem.call (.builtin "isinstance") us) (EP X pins σ Q) X.xe s := fun n b ty e q =>
    L2.call_isi pins s σ H _ us Q I r ⟨v, .ty t, .type n, .type t, b, rfl, .ty t, ty, kt n b e, q⟩
  have tab : ∀ n ∈ ["NoneType", "bool", "int", "str", "list", "tuple"], L2.kitB n t = some (if n = "bool" then (t == "bool" || t == "int") else t == n) := by
    unfold tyNames at ht
    intro n hn
    revert n
    have hd : ∀ t ∈ ["int", "bool", "str", "list", "tuple", "dict"], ∀ n ∈ ["NoneType", "bool", "int", "str", "list", "tuple"], L2.kitB n t = some (if n = "bool" then (t == "bool" || t == "int") else t == n) := by decide +kernel
    exact hd t ht
  unfold isTy at h
  split at h
  · cases (show v = _ from hx); exact fin "NoneType" _ (.base .non) (by rw [tab "NoneType" (by decide)]; rw [if_neg (by decide)]) h
  · cases (show v = _ from hx); exact fin "bool" _ (.base (.bl _)) (by rw [tab "bool" (by decide)]; rw [if_pos rfl]) h
  · cases (show v = _ from hx); exact fin "int" _ (.base (.int _)) (by rw [tab "int" (by decide)]; rw [if_neg (by decide)]) h
  · cases (show v = _ from hx); exact fin "str" _ (.base (.str _)) (by rw [tab "str" (by decide)]; rw [if_neg (by decide)]) h
  · obtain ⟨a, ws, rfl, h1, h2⟩ := hx
    exact fin "list" _ (.base (.lst h1)) (by rw [tab "list" (by decide)]; rw [if_neg (by decide)]) h
  · obtain ⟨a, ws, rfl, h1, h2⟩ := hx
    exact fin "tuple" _ (.base (.tup (sub _ _ h1))) (by rw [tab "tuple" (by decide)]; rw [if_neg (by decide)]) h
  · exact h.elim
/-- methods that change nothing -/
def rMeth (m : MP) : V → List V → Hp → VK → Prop := fun x vs H Q => ∃ Hs dx xs, Same Hs H ∧ RV Hs H dx x ∧ RVA Hs H xs vs ∧ meth m dx xs fun z => ∀ v H' Hs', Grow Hs H Hs' H' z v → Q v H'
theorem join_R : MtR X "str.join" (rMeth .join) := by
  intro pins s σ H x vs v us Q I rx r h
  obtain ⟨Hs, dx, xs, sub, hx, ha, h⟩ := h
  simp only [meth] at h
  unfold methJ at h
  split at h
  · obtain ⟨w, rfl, a, ws, rfl, h1, h2⟩ := ha.one
    cases (show x = _ from hx)
    obtain ⟨ys, e, l, h⟩ := h
    have e2 := h2.strs _ _ _ e
    subst e2
    exact L2.mt_join pins s σ H _ _ v us Q I rx r ⟨_, a, ys, rfl, rfl, .inl (SqL.of h1), l, h _ _ _ (.sc rfl)⟩
  · obtain ⟨w, rfl, a, ws, rfl, h1, h2⟩ := ha.one
    cases (show x = _ from hx)
    obtain ⟨ys, e, l, h⟩ := h
    have e2 := h2.strs _ _ _ e
    subst e2
    exact L2.mt_join pins s σ H _ _ v us Q I rx r ⟨_, a, ys, rfl, rfl, .inr (SqT.of (sub _ _ h1)), l, h _ _ _ (.sc rfl)⟩
  · exact h.elim
theorem index_RS : MtR X "str.index" (fun x vs H Q => (∃ z, x = .str z) ∧ rMeth .index x vs H Q) := by
  intro pins s σ H x vs v us Q I rx r h
  obtain ⟨⟨z, rfl⟩, Hs, dx, xs, sub, hx, ha, h⟩ := h
  simp only [meth] at h
  unfold methI at h
  split at h
  · cases (show V.str z = _ from hx)
    obtain ⟨w, rfl, q⟩ := ha.one
    cases (show w = _ from q)
    obtain ⟨i, rest, e, h⟩ := h
    exact L2.mt_sindex pins s σ H _ _ v us Q I rx r ⟨_, _, i, rest, rfl, rfl, e, h _ _ _ (.sc rfl)⟩
  · obtain ⟨a, vs', e, _⟩ := hx
    cases e
  · exact h.elim
theorem pyAll_get : ∀ {xs : List D} {j : Nat} {z : D}, xs[j]? = some z → (D.pyAll xs)[j]? = some z.py
  | x :: xs, 0, z, h => by simp at h; subst h; rfl
  | x :: xs, j + 1, z, h => by simp at h; simpa [D.pyAll] using pyAll_get h
theorem pyAll_of : ∀ {xs : List D} {j : Nat} {z : PyData}, (D.pyAll xs)[j]? = some z → ∃ y, xs[j]? = some y ∧ z = y.py
  | [], j, z, h => by simp [D.pyAll] at h
  | x :: xs, 0, z, h => by simp [D.pyAll] at h; exact ⟨x, rfl, h.symm⟩
  | x :: xs, j + 1, z, h => by
    obtain ⟨y, a, b⟩ := pyAll_of (xs := xs) (j := j) (z := z) (by simpa [D.pyAll] using h)
    exact ⟨y, by simpa using a, b⟩
theorem index_RL (hr : Room k X.A) : MtR X "list.index" (fun x vs H Q => (∃ a, x = .ref a) ∧ rMeth .index x vs H Q) := by
  intro pins s σ H x vs v us Q I rx r h
  obtain ⟨⟨a0, rfl⟩, Hs, dx, xs, sub, hx, ha, h⟩ := h
  have hu2 : X.A.units + 65 < cLine := by have := hr.un; omega
  simp only [meth] at h
  unfold methI at h
  split at h
  · cases (show V.ref a0 = _ from hx)
  · rename_i ds y
    obtain ⟨w, rfl, q⟩ := ha.one
    obtain ⟨o1, o2, j, z, e1, e2, e3, h⟩ := h
    have q2 : Dp X.K H (.ref a0) (.list (D.pyAll ds)) := (hx.sh sub).dp o1.1
    exact L2.mt_indexD hu2 pins s σ H _ _ v us Q I rx r ⟨a0, w, y.py, D.pyAll ds, j, z.py, rfl, rfl, q2, (q.sh sub).dp o2.1, o1.2, o2.2, pyAll_get e1, e2, fun m z' hm hz => by
      obtain ⟨y', a, rfl⟩ := pyAll_of hz
      exact e3 m y' hm a, h _ _ _ (.sc rfl)⟩
  · exact h.elim
theorem count_RS : MtR X "str.count" (fun x vs H Q => (∃ z, x = .str z) ∧ rMeth .count x vs H Q) := by
  intro pins s σ H x vs v us Q I rx r h
  obtain ⟨⟨z, rfl⟩, Hs, dx, xs, sub, hx, ha, h⟩ := h
  simp only [meth] at h
  unfold methC at h
  split at h
  · cases (show V.str z = _ from hx)
    obtain ⟨w, rfl, q⟩ := ha.one
    cases (show w = _ from q)
    exact L2.mt_count pins s σ H _ _ v us Q I rx r ⟨_, _, rfl, rfl, h _ _ _ (.sc rfl)⟩
  · exact h.elim
/-- methods that change a list -/
def rMut (m : MU) : V → List V → Hp → VK → Prop := fun x vs H Q => ∃ Hs a us xs ds, x = .ref a ∧ Same Hs H ∧ H a = some (.lst us) ∧ ShA Hs xs us ∧ ShA Hs ds vs ∧ muta m xs ds fun z ys => ∀ v ws, Sh Hs z v → ShA Hs ys ws → Q v (upd H a (.lst ws))
def mId : MU → String
  | .append => "list.append" | .pop => "list.pop" | .reverse => "list.reverse" | .clear => "list.clear" | .extend => "list.extend" | .insert => "list.insert"
theorem ShA.one {Hs : Hp} {x : D} {vs : List V} (h : ShA Hs [x] vs) : ∃ v, vs = [v] ∧ Sh Hs x v := by
  obtain ⟨v, ws, rfl, a, b⟩ := h
  cases (show ws = [] from b)
  exact ⟨v, rfl, a⟩
theorem muta_R {m : MU} : MtR X (mId m) (rMut m) := by
  intro pins s σ H x vs v us Q I rx r h
  obtain ⟨Hs, a, zs, xs, ds, rfl, sub, h1, h2, h3, h⟩ := h
  have l2 := h2.len
  unfold muta at h
  split at h
  · obtain ⟨w, rfl, q⟩ := h3.one
    exact L2.mt_append pins s σ H _ _ v us Q I rx r ⟨a, zs, w, rfl, rfl, h1, by rw [← line_eq, ← l2]; exact h.1, h.2 _ _ rfl (h2.app ⟨w, [], rfl, q, rfl⟩)⟩
  · cases (show vs = [] from h3)
    obtain ⟨y, e, h⟩ := h
    obtain ⟨w, e2, sh⟩ := h2.get e
    exact L2.mt_pop pins s σ H _ _ v us Q I rx r ⟨a, zs, w, rfl, rfl, h1, by rw [← l2]; exact e2, h _ _ sh h2.dropLast⟩
  · obtain ⟨w, rfl, q⟩ := h3.one
    cases (show w = _ from q)
    obtain ⟨⟨b1, b2⟩, j, y, e, e2, h⟩ := h
    obtain ⟨w, e3, sh⟩ := h2.get e2
    exact L2.mt_popAt pins s σ H _ _ v us Q I rx r ⟨a, zs, _, j, w, rfl, rfl, h1, b1, b2, by rw [← l2]; exact e, e3, h _ _ sh (h2.erase j)⟩
  · cases (show vs = [] from h3)
    exact L2.mt_reverse pins s σ H _ _ v us Q I rx r ⟨a, zs, rfl, rfl, h1, h _ _ rfl h2.rev⟩
  · cases (show vs = [] from h3)
    exact L2.mt_clear pins s σ H _ _ v us Q I rx r ⟨a, zs, rfl, rfl, h1, h _ _ rfl rfl⟩
  · obtain ⟨w, rfl, b, ws, rfl, q1, q2⟩ := h3.one
    exact L2.mt_extend pins s σ H _ _ v us Q I rx r ⟨a, b, zs, ws, rfl, rfl, h1, sub _ _ q1, by rw [← line_eq, ← l2, ← q2.len]; exact h.1, h.2 _ _ rfl (h2.app q2)⟩
  · obtain ⟨w, ws, rfl, q, t⟩ := h3
    obtain ⟨w2, rfl, q2⟩ := ShA.one t
    cases (show w = _ from q)
    exact L2.mt_insert pins s σ H _ _ v us Q I rx r ⟨a, zs, _, w2, rfl, rfl, h1, by rw [← line_eq, ← l2]; exact h.1, h.2.1.1, h.2.1.2, h.2.2 _ _ rfl (((h2.take _).app (ShA.cons q2 ShA.nil)).app (h2.drop _))⟩
  · exact h.elim
/-- o[i] of a list, for o[i] op= e -/
theorem get_list : L2.PGet X (L2.rIxL X.K) := by
  intro pins s σ H o i ov iv Q I ro ri h
  obtain ⟨p, xs, n, w, rfl, rfl, hl, e, q⟩ := h
  obtain ⟨its, rv, pl, hz⟩ := I.list hl
  obtain ⟨t, rfl⟩ := ri
  cases ro
  obtain ⟨j, e1, e2, h3, h4, h5⟩ := L2.atI_get e
  obtain ⟨u, hu, ru⟩ := rv.get e2
  have hl2 := rv.length
  have hn := L2.line63
  have fin : EP X pins σ Q u s := ⟨w, H, I, ru, q⟩
  by_cases h0 : 0 ≤ n
  · have hj : n.toNat = j := by
      rw [seqIndex_of h0 h5] at e1
      exact Option.some.inj e1
    exact wpAny_getItem_list pl.isList h0 (by omega) (by rw [hj]; simpa using hu) fin
  · have hj : (n + (its.toArray.size : Int)).toNat = j := by
      rw [seqIndex_neg (by omega) (by omega)] at e1
      rw [List.size_toArray, ← hl2]
      exact Option.some.inj e1
    exact wpAny_mono (wpAny_getItem_list_neg (x := u) (Q := fun r s' => r = u ∧ EP X pins σ Q r s') pl.isList (by omega) (by rw [List.size_toArray] <;> omega) (by omega) (by rw [hj]; simpa using hu) ⟨rfl, fin⟩) (fun _ _ h => h.2) fun _ _ h => h
end
end Itp

namespace Itp
variable [KF]
open PySem PySem.Spec PyProof.Rows
open L2 (V Hp HO upd upd_same upd_ne ne_of ne_of_none Same Cx Inv OpR CallR MtR IxR SlR PSet TruR Room RelV EP VK SqL SqT Dp DpAll It TI TE TA PI PE PA PIE thn Turn FpOk Itl Itt Its Itr Itc Itv Ite Itz Gl)
/-! ### what a for walks -/
/-- J goes through xs, in heaps that hold what H1 holds at the sources -/
structure Wlk (Hb : Hp) (J : It) (xs : List D) (G : Hp → Prop) : Prop where
  goes : ∀ i H, i < xs.length → G H → J.go i H
  stops : ∀ H, G H → J.stop xs.length H
  yields : ∀ i H v H' Hs x, xs[i]? = some x → G H → Same Hb Hs → Same Hs H → J.yld i H v H' → ∃ Hs', Sh Hs' x v ∧ ((H' = H ∧ Hs' = Hs) ∨ ∃ T o, H T = none ∧ H' = upd H T o ∧ Hs' = upd Hs T o)
/-- the sources as they stood -/
def Held (vs : List V) (H1 H : Hp) : Prop := ∀ a o, V.ref a ∈ vs → H1 a = some o → H a = some o
section
variable {Hs H : Hp} {K : PySem.W.Frag}
theorem wlk_list {a : Addr} {us : List V} {xs : List D} {vs : List V} (h : ShA Hs xs us) (ha : H a = some (.lst us)) (hv : V.ref a ∈ vs) : Wlk Hs (Itl K a) xs (Held vs H) := by
  refine ⟨fun i H' hi g => ?_, fun H' g => ?_, fun i H' v H2 Hs' x e g sb sub y => ?_⟩
  · obtain ⟨w, e, _⟩ := h.get (List.getElem?_eq_getElem hi)
    exact ⟨us, w, SqL.of (g a _ hv ha), e⟩
  · exact ⟨us, SqL.of (g a _ hv ha), by rw [h.len]; exact Nat.le_refl _⟩
  · obtain ⟨e2, y⟩ := y
    have := y us (SqL.of (g a _ hv ha))
    exact ⟨Hs', Sh.mono sb (h.at e this), .inl ⟨e2, rfl⟩⟩
theorem wlk_tup {a : Addr} {us : List V} {xs : List D} {vs : List V} (h : ShA Hs xs us) (ha : H a = some (.tup us)) (hv : V.ref a ∈ vs) : Wlk Hs (Itt K a) xs (Held vs H) := by
  refine ⟨fun i H' hi g => ?_, fun H' g => ?_, fun i H' v H2 Hs' x e g sb sub y => ?_⟩
  · obtain ⟨w, e, _⟩ := h.get (List.getElem?_eq_getElem hi)
    exact ⟨us, w, SqT.of (g a _ hv ha), e⟩
  · exact ⟨us, SqT.of (g a _ hv ha), by rw [h.len]; exact Nat.le_refl _⟩
  · obtain ⟨e2, y⟩ := y
    have := y us (SqT.of (g a _ hv ha))
    exact ⟨Hs', Sh.mono sb (h.at e this), .inl ⟨e2, rfl⟩⟩
theorem wlk_str {z : Str} {vs : List V} : Wlk Hs (Its z) (z.cps.toList.map fun c => .str ⟨#[c]⟩) (Held vs H) := by
  refine ⟨fun i H' hi g => ?_, fun H' g => ?_, fun i H' v H2 Hs' x e g sb sub y => ?_⟩
  · show i < z.cps.size
    simpa using hi
  · show z.cps.size ≤ _
    simp
  · obtain ⟨e2, c, y, rfl⟩ := y
    refine ⟨Hs', ?_, .inl ⟨e2, rfl⟩⟩
    rw [List.getElem?_map, Array.getElem?_toList, y] at e
    cases e
    rfl
theorem wlk_range {lo : Int} {n : Nat} {vs : List V} : Wlk Hs (Itr lo n) (rangeD lo n) (Held vs H) := by
  refine ⟨fun i H' hi g => ?_, fun H' g => ?_, fun i H' v H2 Hs' x e g sb sub y => ?_⟩
  · show i < n
    simpa [rangeD] using hi
  · show n ≤ _
    simp [rangeD]
  · obtain ⟨e2, rfl⟩ := y
    refine ⟨Hs', ?_, .inl ⟨e2, rfl⟩⟩
    unfold rangeD at e
    rw [List.getElem?_map] at e
    cases q : (List.range n)[i]? with
    | none => rw [q] at e; cases e
    | some j =>
      rw [q] at e
      have : j = i := by
        obtain ⟨h1, h2⟩ := List.getElem?_eq_some_iff.mp q
        simpa using h2.symm
      subst this
      cases e
      rfl
theorem wlk_down {lo : Int} {n : Nat} {vs : List V} : Wlk Hs (Itc lo (-1) n) (downD lo n) (Held vs H) := by
  refine ⟨fun i H' hi g => ?_, fun H' g => ?_, fun i H' v H2 Hs' x e g sb sub y => ?_⟩
  · show i < n
    simpa [downD] using hi
  · show n ≤ _
    simp [downD]
  · obtain ⟨e2, rfl⟩ := y
    refine ⟨Hs', ?_, .inl ⟨e2, rfl⟩⟩
    unfold downD at e
    rw [List.getElem?_map] at e
    cases q : (List.range n)[i]? with
    | none => rw [q] at e; cases e
    | some j =>
      rw [q] at e
      have : j = i := by
        obtain ⟨h1, h2⟩ := List.getElem?_eq_some_iff.mp q
        simpa using h2.symm
      subst this
      cases e
      rfl
theorem wlk_rev {a : Addr} {us : List V} {xs : List D} {vs : List V} (h : ShA Hs xs us) (ha : H a = some (.lst us)) (hv : V.ref a ∈ vs) : Wlk Hs (Itv K a us.length) xs.reverse (Held vs H) := by
  refine ⟨fun i H' hi g => ?_, fun H' g => ?_, fun i H' v H2 Hs' x e g sb sub y => ?_⟩
  · have hi2 : i < us.length := by rw [← h.len]; simpa using hi
    have hj : us.length - 1 - i < us.length := by omega
    exact ⟨hi2, us, us[us.length - 1 - i], SqL.of (g a _ hv ha), List.getElem?_eq_getElem hj⟩
  · show us.length ≤ _
    rw [List.length_reverse, h.len]; exact Nat.le_refl _
  · obtain ⟨e2, y⟩ := y
    have y2 := y us (SqL.of (g a _ hv ha))
    refine ⟨Hs', Sh.mono sb (h.at ?_ y2), .inl ⟨e2, rfl⟩⟩
    have hi : i < xs.length := by
      have := (List.getElem?_eq_some_iff.mp e).1
      simpa using this
    rw [List.getElem?_reverse hi] at e
    rw [← h.len]; exact e
theorem wlk_revT {a : Addr} {us : List V} {xs : List D} {vs : List V} (h : ShA Hs xs us) (ha : H a = some (.tup us)) (hv : V.ref a ∈ vs) : Wlk Hs (RT.ItvT K a us.length) xs.reverse (Held vs H) := by
  refine ⟨fun i H' hi g => ?_, fun H' g => ?_, fun i H' v H2 Hs' x e g sb sub y => ?_⟩
  · have hi2 : i < us.length := by rw [← h.len]; simpa using hi
    have hj : us.length - 1 - i < us.length := by omega
    exact ⟨hi2, us, us[us.length - 1 - i], SqT.of (g a _ hv ha), List.getElem?_eq_getElem hj⟩
  · show us.length ≤ _
    rw [List.length_reverse, h.len]; exact Nat.le_refl _
  · obtain ⟨e2, y⟩ := y
    have y2 := y us (SqT.of (g a _ hv ha))
    refine ⟨Hs', Sh.mono sb (h.at ?_ y2), .inl ⟨e2, rfl⟩⟩
    have hi : i < xs.length := by
      have := (List.getElem?_eq_some_iff.mp e).1
      simpa using this
    rw [List.getElem?_reverse hi] at e
    rw [← h.len]; exact e
theorem enumD_len : ∀ (n : Nat) (xs : List D), (enumD n xs).length = xs.length
  | _, [] => rfl
  | n, x :: xs => by simp [enumD, enumD_len (n + 1) xs]
theorem enumD_at : ∀ (n : Nat) (xs : List D) (i : Nat), (enumD n xs)[i]? = xs[i]?.map fun x => .tup [.int ((n + i : Nat) : Int), x]
  | _, [], i => by simp [enumD]
  | n, x :: xs, 0 => by simp [enumD]
  | n, x :: xs, i + 1 => by
    have h := enumD_at (n + 1) xs i
    have e : n + 1 + i = n + (i + 1) := by omega
    simp only [enumD, List.getElem?_cons_succ, h, e]
theorem zipD_len : ∀ (xs ys : List D), (zipD xs ys).length = min xs.length ys.length
  | [], _ => by simp [zipD]
  | _ :: _, [] => by simp [zipD]
  | x :: xs, y :: ys => by simp [zipD, zipD_len xs ys]
theorem zipD_at : ∀ (xs ys : List D) (i : Nat) (z : D), (zipD xs ys)[i]? = some z → ∃ x y, xs[i]? = some x ∧ ys[i]? = some y ∧ z = .tup [x, y]
  | [], _, i, z, h => by simp [zipD] at h
  | _ :: _, [], i, z, h => by simp [zipD] at h
  | x :: xs, y :: ys, 0, z, h => by simp [zipD] at h; exact ⟨x, y, rfl, rfl, h.symm⟩
  | x :: xs, y :: ys, i + 1, z, h => by
    obtain ⟨a, b, h1, h2, h3⟩ := zipD_at xs ys i z (by simpa [zipD] using h)
    exact ⟨a, b, by simpa using h1, by simpa using h2, h3⟩
/-- a new pair -/
theorem pair_sh {T : Addr} {x y : V} {dx dy : D} {Hs' H' : Hp} (hT : H' T = none) (sub : Same Hs' H') (hx : Sh Hs' dx x) (hy : Sh Hs' dy y) : Sh (upd Hs' T (.tup [x, y])) (.tup [dx, dy]) (.ref T) := by
  have m : Same Hs' (upd Hs' T (.tup [x, y])) := same_upd (Same.free sub hT)
  exact ⟨T, [x, y], rfl, upd_same, x, [y], rfl, Sh.mono m hx, y, [], rfl, Sh.mono m hy, rfl⟩
theorem wlk_enum {a : Addr} {us : List V} {xs : List D} {vs : List V} (h : ShA Hs xs us) (ha : H a = some (.lst us)) (hv : V.ref a ∈ vs) : Wlk Hs (Ite K a) (enumD 0 xs) (Held vs H) := by
  refine ⟨fun i H' hi g => ?_, fun H' g => ?_, fun i H' v H2 Hs' x e g sb sub y => ?_⟩
  · rw [enumD_len] at hi
    obtain ⟨w, e, _⟩ := h.get (List.getElem?_eq_getElem hi)
    exact ⟨us, w, SqL.of (g a _ hv ha), e⟩
  · exact ⟨us, SqL.of (g a _ hv ha), by rw [enumD_len, h.len]; exact Nat.le_refl _⟩
  · obtain ⟨T, w, rfl, hT, rfl, y⟩ := y
    have y2 := y us (SqL.of (g a _ hv ha))
    rw [enumD_at] at e
    cases q : xs[i]? with
    | none => rw [q] at e; cases e
    | some z =>
      rw [q] at e
      simp only [Option.map_some, Option.some.injEq, Nat.zero_add] at e
      subst e
      exact ⟨_, pair_sh hT sub rfl (Sh.mono sb (h.at q y2)), .inr ⟨T, _, hT, rfl, rfl⟩⟩
theorem wlk_zip {a b : Addr} {us ws : List V} {xs ys : List D} {vs : List V} (h : ShA Hs xs us) (h2 : ShA Hs ys ws) (ha : H a = some (.lst us)) (hb : H b = some (.lst ws)) (hv : V.ref a ∈ vs) (hv2 : V.ref b ∈ vs) :
    Wlk Hs (Itz K a b) (zipD xs ys) (Held vs H) := by
  have l1 := h.len
  have l2 := h2.len
  refine ⟨fun i H' hi g => ?_, fun H' g => ?_, fun i H' v H2 Hs' x e g sb sub y => ?_⟩
  · rw [zipD_len] at hi
    obtain ⟨w, e, _⟩ := h.get (List.getElem?_eq_getElem (show i < xs.length by omega))
    obtain ⟨w2, e2, _⟩ := h2.get (List.getElem?_eq_getElem (show i < ys.length by omega))
    exact ⟨us, ws, w, w2, SqL.of (g a _ hv ha), SqL.of (g b _ hv2 hb), e, e2⟩
  · exact ⟨us, ws, SqL.of (g a _ hv ha), SqL.of (g b _ hv2 hb), by rw [zipD_len]; omega⟩
  · obtain ⟨T, w, w2, rfl, hT, rfl, y1, y2⟩ := y
    obtain ⟨dx, dy, e1, e2, rfl⟩ := zipD_at _ _ _ _ e
    exact ⟨_, pair_sh hT sub (Sh.mono sb (h.at e1 (y1 us (SqL.of (g a _ hv ha))))) (Sh.mono sb (h2.at e2 (y2 ws (SqL.of (g b _ hv2 hb))))), .inr ⟨T, _, hT, rfl, rfl⟩⟩
theorem wlk_zipT {a b : Addr} {us ws : List V} {xs ys : List D} {vs : List V} (h : ShA Hs xs us) (h2 : ShA Hs ys ws) (ha : H a = some (.tup us)) (hb : H b = some (.tup ws)) (hv : V.ref a ∈ vs) (hv2 : V.ref b ∈ vs) :
    Wlk Hs (RZ.ItzT K a b) (zipD xs ys) (Held vs H) := by
  have l1 := h.len
  have l2 := h2.len
  refine ⟨fun i H' hi g => ?_, fun H' g => ?_, fun i H' v H2 Hs' x e g sb sub y => ?_⟩
  · rw [zipD_len] at hi
    obtain ⟨w, e, _⟩ := h.get (List.getElem?_eq_getElem (show i < xs.length by omega))
    obtain ⟨w2, e2, _⟩ := h2.get (List.getElem?_eq_getElem (show i < ys.length by omega))
    exact ⟨us, ws, w, w2, SqT.of (g a _ hv ha), SqT.of (g b _ hv2 hb), e, e2⟩
  · exact ⟨us, ws, SqT.of (g a _ hv ha), SqT.of (g b _ hv2 hb), by rw [zipD_len]; omega⟩
  · obtain ⟨T, w, w2, rfl, hT, rfl, y1, y2⟩ := y
    obtain ⟨dx, dy, e1, e2, rfl⟩ := zipD_at _ _ _ _ e
    exact ⟨_, pair_sh hT sub (Sh.mono sb (h.at e1 (y1 us (SqT.of (g a _ hv ha))))) (Sh.mono sb (h2.at e2 (y2 ws (SqT.of (g b _ hv2 hb))))), .inr ⟨T, _, hT, rfl, rfl⟩⟩
end
/-! ### an iterable, whatever it is -/
section
variable {X : Cx} {tg : Expr}
/-- a list, a tuple, a text -/
def iSeq (K : PySem.W.Frag) (tl : TE) : TI := fun σ H R => tl σ H fun x H1 => (∃ a xs, x = .ref a ∧ SqL K H1 a xs ∧ R (Itl K a) H1) ∨ (∃ a xs, x = .ref a ∧ SqT K H1 a xs ∧ R (Itt K a) H1) ∨ ∃ z, x = .str z ∧ R (Its z) H1
theorem pi_seq {l : Expr} {tl : TE} (hl : PE X l tl) : PI X tg l (iSeq X.K tl) := by
  refine ⟨fun pins s σ H R I h => ?_⟩
  refine thn (hl.run pins s σ H _ I h) fun v s1 ⟨x, H1, I1, r1, q1⟩ => ?_
  rcases q1 with ⟨a, xs, e, hq, q⟩ | ⟨a, xs, e, hq, q⟩ | ⟨z, e, q⟩
  · subst e
    cases r1
    obtain ⟨its, rv, p, hz⟩ := I1.list hq
    refine wpAny_pyIter_list p.isList ?_
    refine ⟨s1.heap.objs.size, [s1.heap.objs.size], _, _, H1, rfl, I1.kept (t' := s1.toks) fun b o e => Heap.get?_push_of_some _ e, L2.turn_list a _, ⟨_, Heap.get?_push_size _ rfl, rfl, rfl⟩, fun b hb => ?_, q⟩
    have e : b = s1.heap.objs.size := by simpa using hb
    subst e
    exact I1.fpOk (Nat.le_refl _) (I1.hok.fresh (Nat.le_refl _))
  · subst e
    cases r1
    obtain ⟨its, rv, p, hz⟩ := I1.tuple hq
    refine wpAny_pyIter_tuple (show s1.heap.IsTuple a its.toArray from p) ?_
    refine ⟨s1.heap.objs.size, [s1.heap.objs.size], _, _, H1, rfl, I1.kept (t' := s1.toks) fun b o e => Heap.get?_push_of_some _ e, L2.turn_tuple a _, ⟨_, Heap.get?_push_size _ rfl, rfl, rfl⟩, fun b hb => ?_, q⟩
    have e : b = s1.heap.objs.size := by simpa using hb
    subst e
    exact I1.fpOk (Nat.le_refl _) (I1.hok.fresh (Nat.le_refl _))
  · subst e
    obtain ⟨t, rfl⟩ := r1
    cases ha : z.cps.all (· < 128)
    · exact wpAny_pyIter_wide ha (L2.pi_one (tk := s1.toks) I1 _ (L2.turn_str _ z t "str_iterator" (.inr rfl)) ⟨_, Heap.get?_push_size _ rfl, rfl, rfl⟩ q)
    · exact wpAny_pyIter_ascii ha (L2.pi_one (tk := s1.toks) I1 _ (L2.turn_str _ z t "str_ascii_iterator" (.inl rfl)) ⟨_, Heap.get?_push_size _ rfl, rfl, rfl⟩ q)
end
end Itp

/-! Grd: what a def promises where no text of a list is under way (guards = some []). -/
namespace Itp
open PySem PySem.Spec PyProof.Rows
open L2 (V Hp HO RelV VK XK Sp Cx Inv Room PE PA EP Vals Gl Binds FnScope)
theorem fresh_of_room {k : Nat} {A : Around} (r : Room k A) (env : Env) : (A.deeper env).handled = none := r.hd
/-- a def's promise -/
structure FnG (P : Program) (w : World) (K : PySem.W.Frag) (mg : Str → Option Value) (base : Heap) (k : Nat) (f : Addr) (fd : FuncData) (ps : List Str) (sp : Sp) : Prop where
  size : ∀ vs H Q E, sp vs H Q E → vs.length = ps.length
  go : ∀ (A : Around) (outer : List Env) (s : Shared) (H : Hp) (args : Args) (us : List Value) (vs : List V) (Q : VK) (E : XK),
    A.guards = some [] → Room k A → L2.Env0 P w K mg base A outer s H → BindsTo s fd args (ps.zip us) → Vals vs us → sp vs H Q E →
    codeAny (model P w) A (.call (.ref f) args) (L2.CR L2.CX0 outer P w H s Q E) s
section
variable {P : Program} {w : World} {K : PySem.W.Frag} {mg : Str → Option Value} {base : Heap} {k : Nat} {f : Addr} {fd : FuncData} {ps : List Str} {sp sp' : Sp}
theorem FnG.imp (F : FnG P w K mg base k f fd ps sp) (h : ∀ vs H Q E, sp' vs H Q E → sp vs H Q E) : FnG P w K mg base k f fd ps sp' where
  size := fun _ _ _ _ q => F.size _ _ _ _ (h _ _ _ _ q)
  go := fun A outer s H args us vs Q E g r e b v q => F.go A outer s H args us vs Q E g r e b v (h _ _ _ _ q)
end
/-- a body's end is a call's end -/
theorem ret_end {CX : L2.CXT} {P : Program} {w : World} {K : PySem.W.Frag} {mg : Str → Option Value} {base : Heap} {N : List Str} {qual : Str} {scope : Scope} {f : Addr} {cd : Value} {A : Around} {outer : List Env} {s s' : Shared} {H H' : Hp} {E : XK} {σ : L2.St} {v : V} {u : Value} {Q : VK}
    (J : Inv (L2.cxOf CX P w K mg base N qual scope f cd A outer s H E) [] σ H' s') (r : RelV v u) (q : Q v H') : L2.CE outer P w H s Q u s' := ⟨v, H', J.os, J.bare, J.base, J.hok, r, q⟩
theorem fnG_of {P : Program} {w : World} {K : PySem.W.Frag} {mg : Str → Option Value} {base : Heap} {k : Nat} {x qual : Str} {st : Stmt} {f : Addr} {fd : FuncData} {N ps : List Str} {sp : Sp} (F : L2.Fun K x qual st f fd) (S : FnScope N ps (L2.defScope st))
    (size : ∀ vs H Q E, sp vs H Q E → vs.length = ps.length)
    (body : ∀ (cdv : Value) (A : Around) (outer : List Env) (s : Shared) (H : Hp) (vs : List V) (Q : VK) (E : XK), A.guards = some [] → Room k (A.deeper (envOfC qual (L2.defScope st) s.heap.objs.size f cdv)) → sp vs H Q E →
      ∃ t, L2.PSs (L2.cxOf L2.CX0 P w K mg base N qual (L2.defScope st) f cdv A outer s H E).nox (L2.defBody st) t ∧ t { nx := fun _ H' => Q .non H', rt := Q } (L2.start N vs) H) : FnG P w K mg base (k + 1) f fd ps sp := by
  obtain ⟨oc, od, kV, doc, pm, an, cdv, ct, osl, rfl, lk, hcd⟩ := F.ex
  refine ⟨size, ?_⟩
  intro A outer s H args us vs Q E hgd room e0 bind rel hsp
  have grow : ∀ b o, base.get? b = some o → s.heap.get? b = some o := fun b o e => (e0.bs b o e).1
  have inK : K.In s.heap := e0.mod.kin.keeps grow
  have vl := size _ _ _ _ hsp
  refine codeAny_call_function room.depth (inK _ _ lk) rfl S.co S.gen rfl (PySem.W.codeRec_of inK hcd) (bind _ _ _ _ ?_)
  have kinds : ∀ y ∈ ps.zip us, (L2.defScope st).names.lookup y.1 = some .local ∨ ((L2.defScope st).names.lookup y.1 = some .cell ∧ ((cellsFrom (s.heap.objs.size + 1) (L2.defScope st).names []).lookup y.1).isSome = true) := by
    rintro ⟨n, v⟩ hy
    rcases S.par n (List.of_mem_zip hy).1 with q | q
    · exact .inl q
    · exact .inr ⟨q, PySem.W.cellsFrom_some _ _ _ (.inl q)⟩
  refine wpAny_newFunctionEnv_cells S.kind kinds ?_
  intro env he s1 x
  subst he
  refine ⟨(e0.mod.nolimit.keeps grow).keeps x.toInCall.keep, codeAny_func ?_⟩
  obtain ⟨t, ht, hq⟩ := body cdv A outer s H vs Q E hgd (room.deeper _) hsp
  have I := L2.inv_start (CX := L2.CX0) (cd := cdv) (E := E) S room.hd e0 vl rel x
  refine wpAny_mono (ht.nox.run [] s1 (L2.start N vs) H _ I hq) ?_ (fun _ _ z => z)
  intro fl s' z
  cases fl with
  | next =>
    obtain ⟨σ', H', J, q⟩ := z
    exact ret_end (v := V.non) (u := Value.none) J rfl q
  | ret u =>
    obtain ⟨v, σ', H', J, rv, q⟩ := z
    exact ret_end J rv q
  | brk =>
    obtain ⟨_, _, _, q⟩ := z
    exact q.elim
  | cont =>
    obtain ⟨_, _, _, q⟩ := z
    exact q.elim
section
variable {X : Cx} {k : Nat} {f : Addr} {fd : FuncData} {ps : List Str} {sp : Sp} {x : Str} {p pos : Pos} {e : Expr} {es : List Expr} {t : L2.TA}
theorem go_fn {pins : List (Addr × Obj)} {σ : L2.St} {H : Hp} {s : Shared} {Q : VK} {E : XK} {us : List Value} {vs : List V} (F : FnG X.prog X.w X.K X.mg X.base k f fd ps sp) (hgd : X.A.guards = some []) (hr : Room k X.A) (hb : Binds X.K fd ps [])
    (I : Inv X pins σ H s) (r : Vals vs us) (h : sp vs H Q E) : wpAny (model X.prog X.w) X.A (PySem.call (.ref f) us) (EP X pins σ Q) X.xe s := by
  have hl : (us ++ []).length = ps.length := by rw [List.append_nil, ← r.length]; exact F.size _ _ _ _ h
  have hb' := hb s us I.kIn hl
  rw [List.append_nil] at hb'
  refine wpAny_call (codeAny_mono (F.go X.A X.stack s H ⟨us, []⟩ us vs Q E hgd hr I.env0 hb' r h) ?_)
  intro r s' z
  cases r with
  | error e => exact (show False from z).elim
  | ok fl =>
    cases fl with
    | ret u => exact I.after z
    | next => exact (show False from z).elim
    | brk => exact (show False from z).elim
    | cont => exact (show False from z).elim
theorem pe_go (F : FnG X.prog X.w X.K X.mg X.base k f fd ps sp) (hgd : X.A.guards = some []) (hr : Room k X.A) (hg : Gl X x) (hm : X.mg x = some (.ref f)) (hk : PySem.W.keepIn X.K (.ref f) = true) (hb : Binds X.K fd ps []) (E : XK)
    (ha : PA X (e :: es) t) (hdb : (x == ("__debug__" : Str)) = false) (he : starEach (e :: es) X.env = (false, eval e X.env) :: starEach es X.env) (hpl : (backTo pos (starEach es X.env)).any (·.1) = false) :
    PE X (.Call (.Name x p) (e :: es) [] pos) fun σ H Q => t σ H fun vs H1 => sp vs H1 Q E := by
  constructor
  intro pins s σ H Q I h
  refine wpAny_Call_Name_kw (L2.ld_glob I hg hm ?_ hdb)
  refine PySem.W.callWith_K (h₀ := X.base) I.ok.mod.kin hk ?_ he hpl
  refine L2.thn (ha.run pos pins s σ H _ I h) fun us s1 z => ?_
  obtain ⟨vs, H1, I1, r, q⟩ := z
  exact ⟨I1.kIn, go_fn F hgd hr hb I1 r q⟩
theorem pe_go0 (F : FnG X.prog X.w X.K X.mg X.base k f fd ps sp) (hgd : X.A.guards = some []) (hr : Room k X.A) (hg : Gl X x) (hm : X.mg x = some (.ref f)) (hk : PySem.W.keepIn X.K (.ref f) = true) (hb : Binds X.K fd ps []) (E : XK)
    (hdb : (x == ("__debug__" : Str)) = false) : PE X (.Call (.Name x p) [] [] pos) fun _ H Q => sp [] H Q E := by
  constructor
  intro pins s σ H Q I h
  exact wpAny_Call_Name_kw (L2.ld_glob I hg hm (PySem.W.callWith_K0 I.kIn hk (go_fn (us := []) F hgd hr hb I .nil h)) hdb)
end
/-! ### the law's own call, from the top -/
theorem law_go {P : Program} {w : World} {K : PySem.W.Frag} {mg mb : Str → Option Value} {k : Nat} {fa a : Addr} {fd : FuncData} {x : Str} {sp : Sp} {s₁ : Shared} {vs : List Value} {ns : List Int}
    (KX : K.In s₁.heap) (hns : s₁.heap.Ns mainGlobals mg) (hb : s₁.heap.Ns builtinsNs mb) (hbb : ∀ x : Str, x ≠ "__name__" → mb x = bootBuiltins x) (hlim : s₁.heap.NoLimit) (hg : s₁.gens = #[])
    (ha : s₁.heap.get? a = some { cls := .type "list", data := .seq vs.toArray }) (hi : IntsAre vs ns) (hl : ns.length ≤ sizeLine) (hr : Room k callerA)
    (F : ∀ base : Heap, K.In base → base.Ns mainGlobals mg → FnG P w K mg base k fa fd [x] sp) (hbind : ∀ (s : Shared) (u : Value), BindsTo s fd ⟨[u], []⟩ [(x, u)])
    (hsp : ∀ H : Hp, L2.Only H → L2.SqL K H a (ns.map V.int) → sp [.ref a] H (fun v _ => v = .bl true) fun _ _ _ => False) :
    codeAny (model P w) callerA (.call (.ref fa) ⟨[.ref a], []⟩) (fun r s' => r = .ok (.ret (.bool true)) ∧ OldK s₁.heap s'.heap ∧ s'.os = s₁.os ∧ AllBare s'.gens) s₁ := by
  have rv := L2.vals_ints hi
  have lenV := hi.length
  let goal := codeAny (model P w) callerA (.call (.ref fa) ⟨[.ref a], []⟩) (fun r s' => r = .ok (.ret (.bool true)) ∧ OldK s₁.heap s'.heap ∧ s'.os = s₁.os ∧ AllBare s'.gens) s₁
  -- H: the script alone may stand in it
  have main : ∀ H : Hp, L2.Only H → L2.SqL K H a (ns.map V.int) → L2.HOk P w H s₁.heap → (∀ b, H b ≠ none → b = a) → (H a ≠ none → K.lookup a = none) → goal := by
    intro H only seq hok onlyA notK
    have isA : ∀ {b : Addr} {u : HO}, H b = some u → b = a := fun {b u} e => onlyA b (by rw [e]; exact Option.some_ne_none u)
    have noDict : ∀ {b : Addr} {o : Obj} {es : Array DictEntry} {ep : Nat}, s₁.heap.get? b = some o → o.data = .dict es ep → H b = none := by
      intro b o es ep e d
      cases q : H b with
      | none => rfl
      | some u =>
        cases isA q
        rw [ha] at e
        cases e
        exact absurd (show Data.seq vs.toArray _ = Data.dict es ep from d) (fun z => by cases z)
    have nsUp : ∀ {b : Addr} {m : Str → Option Value}, s₁.heap.Ns b m → (L2.hidT s₁.heap H).Ns b m := by
      rintro b m ⟨o, es, ep, e, d, r⟩
      exact ⟨o, es, ep, L2.hidT_get e (noDict e d), d, r⟩
    have inK : K.In (L2.hidT s₁.heap H) := by
      intro b o e
      refine L2.hidT_get (KX b o e) ?_
      cases q : H b with
      | none => rfl
      | some u =>
        cases isA q
        rw [notK (by rw [q]; exact Option.some_ne_none u)] at e
        cases e
    have limUp : (L2.hidT s₁.heap H).NoLimit := by
      obtain ⟨mc, h1, h2⟩ := hlim
      exact ⟨mc, nsUp h1, h2⟩
    have e0 : L2.Env0 P w K mg (L2.hidT s₁.heap H) callerA [] s₁ H :=
      { frames := rfl, mod := ⟨inK, nsUp hns, ⟨mb, nsUp hb, hbb⟩, limUp⟩, bs := fun b o e => L2.of_hidT e, bsz := Nat.le_of_eq (L2.hidT_size _ _), funs := trivial,
        frf := fun b hb => (nomatch (show b ∈ ([] : List Addr) from hb)), hok := hok, bare := .of_eq hg }
    refine codeAny_mono ((F _ inK (nsUp hns)).go callerA [] s₁ H ⟨[.ref a], []⟩ [.ref a] [.ref a] _ _ rfl hr e0 (hbind s₁ (.ref a)) (.cons rfl .nil) (hsp H only seq)) ?_
    intro r s' z
    cases r with
    | error e => exact (show False from z).elim
    | ok fl =>
      cases fl with
      | next => exact (show False from z).elim
      | brk => exact (show False from z).elim
      | cont => exact (show False from z).elim
      | ret u =>
        obtain ⟨v, H', os, bare, un, hok', r', q⟩ := z
        cases (show v = V.bl true from q)
        cases (show u = Value.bool true from r')
        refine ⟨rfl, OldK.of_keep ?_, os, bare⟩
        intro b o e
        cases q : H b with
        | none => exact un.keep b o e q (fun z => nomatch (show b ∈ ([] : List Addr) from z)) (by simp)
        | some u =>
          rcases only b with z | ⟨ob, xs, z⟩
          · rw [q] at z; cases z
          · have z2 := un.frzs b ob _ z
            have e1 := (hok b _ z).1
            have e2 := (hok' b _ z2).1
            rw [e] at e1
            cases e1
            exact e2
  have vls : vs.toArray.size ≤ sizeLine := by rw [List.size_toArray, lenV]; exact hl
  cases hk : K.lookup a with
  | some o =>
    have e := KX a o hk
    rw [ha] at e
    cases e
    refine main (fun _ => none) (fun _ => .inl rfl) (.inr ⟨_, vs.toArray, _, hk, rfl, rfl, rfl, vls, by simpa using rv⟩) ?_ (fun b z => (z rfl).elim) (fun z => (z rfl).elim)
    intro b u z
    exact nomatch (show (none : Option HO) = some u from z)
  | none =>
    refine main (fun b => if b = a then some (.frz { cls := .type "list", data := .seq vs.toArray } (.lst (ns.map V.int))) else none) ?_ (.inl (.inr ⟨{ cls := .type "list", data := .seq vs.toArray }, if_pos rfl⟩)) ?_ ?_ (fun _ => hk)
    · intro b
      by_cases z : b = a
      · exact .inr ⟨_, _, if_pos z⟩
      · exact .inl (if_neg z)
    · intro b u q
      by_cases z : b = a
      · subst z
        cases (if_pos rfl).symm.trans q
        exact ⟨ha, by rw [List.length_map]; exact hl, vs, _, rv, ha⟩
      · exact nomatch (if_neg z).symm.trans q
    · intro b q
      by_cases z : b = a
      · exact z
      · exact absurd (if_neg z) q
theorem walk_go {l : PySem.W.OpenLaw} {n k : Nat} {q : Program} {loose : List Str} {XP : (Str → Option Value) → Heap → Prop} {YP : World → Heap → Prop} {d : DefRec} {K : Params → PySem.W.Frag} {sp : World → Sp} {x : Str}
    (hn : l.most = some n) (hn2 : n ≤ sizeLine) (hdf : d.params.defaults = []) (hr : Room k callerA) (hY : ∀ (w : World) (h : Heap), YP w h → (K w.params).In h)
    (F : ∀ (w : World) (mg : Str → Option Value) (fa : Addr) (h : Heap), (K w.params).In h → h.Ns mainGlobals mg → mg d.name = some (.ref fa) →
      ∃ fd : FuncData, (∀ (s : Shared) (u : Value), BindsTo s fd ⟨[u], []⟩ [(x, u)]) ∧ ∀ base : Heap, (K w.params).In base → base.Ns mainGlobals mg → FnG l.prog w (K w.params) mg base k fa fd [x] (sp w))
    (hsp : ∀ (w : World) (H : Hp) (a : Addr) (ns : List Int), ns.length ≤ n → L2.Only H → L2.SqL (K w.params) H a (ns.map V.int) → sp w [.ref a] H (fun v _ => v = .bl true) fun _ _ _ => False) :
    PySem.W.WalkO q loose XP YP l.row.toRowW d [] (fun f vs => PySem.call f vs) := by
  refine Att.attach_call hn hdf ?_
  intro w s₀ s₁ mg mb fa o pm cd doc a vs ns G Y ho hd hcd hmg hobj hints hlen hg
  have inK := hY w _ Y
  obtain ⟨fd, bind, fn⟩ := F w mg fa _ inK G.T.g hmg
  exact law_go inK G.T.g G.T.b G.T.builtins G.T.nolimit hg hobj hints (Nat.le_trans hlen hn2) hr fn bind fun H o z => hsp w H a ns hlen o z
end Itp

/-! Iter2: enumerate over a tuple. -/
namespace Itp
open PySem PySem.Spec PyProof.Rows
open L2 (V Hp HO upd upd_same upd_ne Inv SqL SqT It TI TA PI PA thn Turn Ite Gl ObjOk)
section
theorem enum_new {v : Value} {o : Obj} {G : Heap → Prop} (B : Begins v o G) :
    Meets (Builtin.«enumerate.__new__» ⟨[.type "enumerate", v], []⟩) (fun _ R s => G s.heap ∧ R (.ok (.ret (.ref (s.heap.push o).objs.size)))
      { s with heap := (s.heap.push o).push { cls := .type "enumerate", data := .fields #[.none, .bool false, .ref s.heap.objs.size, rawInt 0, .none, .none] } }) :=
  .of_wp fun P W A R s hyp => by
    obtain ⟨hp, gg, dd, tt, oo⟩ := s
    obtain ⟨g1, hyp⟩ := hyp
    have isub := sub_enumerate
    have begin_ : ∀ {A' : Around} {E' : Value → Shared → Prop} {Q' : Value → Shared → Prop}, Q' (.ref hp.objs.size) ⟨hp.push o, gg, dd, tt, oo⟩ → wpAny (model P W) A' (pyIter v) Q' E' ⟨hp, gg, dd, tt, oo⟩ := fun q => B.iter P W _ _ ⟨hp, gg, dd, tt, oo⟩ _ g1 q
    wp_walk using begin_
    refine wpAny_stack_any (fun stk => wpAny_pure ?_)
    split
    · rename_i cc _ _ _ _ _
      cases (cc == Value.type "enumerate")
      · wp_walk using begin_
        exact ⟨_, rfl, hyp⟩
      · wp_walk using begin_
        exact ⟨_, rfl, hyp⟩
    · wp_walk using begin_
      exact ⟨_, rfl, hyp⟩
end
section
variable {prog : Program} {w : World} {A : Around} {E : Value → Shared → Prop} {s : Shared}
theorem enum_call {v : Value} {o : Obj} {G : Heap → Prop} {Q : Value → Shared → Prop} (B : Begins v o G) (g : G s.heap)
    (h : ∀ h', IsEnum h' (s.heap.objs.size + 1) s.heap.objs.size 0 .none → h'.get? s.heap.objs.size = some o → (∀ b u, s.heap.get? b = some u → h'.get? b = some u) → Q (.ref (s.heap.objs.size + 1)) { s with heap := h' }) :
    wpAny (model prog w) A (PySem.call (.type "enumerate") [v]) Q E s := by
  refine callType_new F.called_enumerate (by decide) (F.typeCall_enumerate_1 v) (F.newCall_enumerate_1 v) (fun ob => F.args_object_init_2 ob v) F.entry_enumerate_new (enum_new B) ⟨g, ?_⟩
  have sz : (s.heap.push o).objs.size = s.heap.objs.size + 1 := Heap.size_push ..
  show _ ∧ _
  rw [sz]
  have ie : IsEnum ((s.heap.push o).push { cls := .type "enumerate", data := .fields #[.none, .bool false, .ref s.heap.objs.size, rawInt 0, .none, .none] }) (s.heap.objs.size + 1) s.heap.objs.size 0 .none := by
    have z := Heap.get?_push_size (s.heap.push o) (o := { cls := .type "enumerate", data := .fields #[.none, .bool false, .ref s.heap.objs.size, rawInt 0, .none, .none] }) rfl
    rw [sz] at z
    exact z
  exact ⟨⟨_, ie, rfl⟩, h _ ie (Heap.get?_push_of_some _ (Heap.get?_push_size _ B.free)) fun b u x => Heap.get?_push_of_some _ (Heap.get?_push_of_some _ x)⟩
end
/-- the tuple at a, each item in a new pair -/
def IteT (K : PySem.W.Frag) (a : Addr) : It :=
  ⟨fun i H => ∃ (us : List V) (u : V), SqT K H a us ∧ us[i]? = some u, fun i H v H' => ∃ T u, v = .ref T ∧ H T = none ∧ H' = upd H T (.tup [.int (i : Nat), u]) ∧ ∀ us, SqT K H a us → us[i]? = some u, fun i H => ∃ us : List V, SqT K H a us ∧ us.length ≤ i⟩
theorem turn_enumT {P : Program} {w : World} {K : PySem.W.Frag} {elts : List Expr} {kk : Nat} {tpos : Pos} (a e it : Addr) :
    Turn P w K (.Tuple elts kk tpos) (IteT K a) [e, it] e (fun i h => (∃ old, IsEnum h e it ((i : Nat) : Int) old) ∧ h.IsTupleIter it a i ∧ e ≠ it ∧ a ≠ it ∧ e ≠ a) where
  mem := by simp
  obj := fun i h st b hb => by
    obtain ⟨⟨old, he⟩, ⟨o, ho, hc, hd⟩, _⟩ := st
    rcases (show b = e ∨ b = it by simpa using hb) with z | z
    · rw [z]; exact ⟨_, he, fun v q => nomatch q⟩
    · rw [z]; exact ⟨o, ho, fun v q => by rw [hd] at q; cases q⟩
  keep := fun i h h' st k => let ⟨⟨old, he⟩, hi, hne⟩ := st; ⟨⟨old, k e (by simp) _ he⟩, hi.at fun o q => k it (by simp) o q, hne⟩
  item := by
    intro X hP hw hK hc i pins s σ H E I hf st hg
    subst hP hw hK
    obtain ⟨⟨old, he⟩, hit, hne, hai, hea⟩ := st
    obtain ⟨us, u, hq, hu⟩ := hg
    obtain ⟨its, rv, tp, hz⟩ := I.tuple hq
    obtain ⟨y, hy, ry⟩ := rv.get hu
    have hel : e < s.heap.objs.size := Heap.lt_size he
    have hil : it < s.heap.objs.size := by obtain ⟨_, q, _⟩ := hit; exact Heap.lt_size q
    have hd : X.A.in1.handled = none := I.ok.hd hc
    have li : i < its.toArray.size := by
      have := (List.getElem?_eq_some_iff.mp hy).1
      simpa using this
    refine wpAny_pyNext_enum_itemD (PySem.Draws.tuple hd it a hai its.toArray) he ⟨hit, tp⟩ li hne (by simp [hne, hea]) fun x h' tk hx ho hst hT hsz hk => ?_
    have ex : x = y := by
      have : its.toArray[i]? = some x := hx
      rw [List.getElem?_toArray, hy] at this
      exact (Option.some.inj this).symm
    subst ex
    refine ⟨_, rfl, wpAny_letOwnedTupleGo_enum (s := { s with heap := h', toks := tk + 1 }) ho fun h'' he' sb => ?_⟩
    have hT2 : h''.get? s.heap.objs.size = some { cls := .type "tuple", data := .seq #[.int i tk, x] } := (sb.2 _ (Nat.ne_of_gt hel)).trans hT
    have new : ObjOk X.prog X.w (upd H s.heap.objs.size (.tup [.int (i : Nat), u])) h'' s.heap.objs.size (.tup [.int (i : Nat), u]) :=
      ⟨by show 2 ≤ sizeLine; decide, [.int i tk, x], .cons ⟨_, rfl⟩ (.cons ry .nil), ⟨_, hT2, rfl, _, rfl⟩⟩
    have I1 : Inv X pins σ (upd H s.heap.objs.size (.tup [.int (i : Nat), u])) { s with heap := h'', toks := tk + 1 } :=
      I.turnedNew (ch := [e, it]) (fun b ob hb q => (sb.2 b (fun z => hb (by simp [z]))).trans (hk b ob (fun z => hb (by simp [z])) (fun z => hb (by simp [z])) q)) hf (Nat.le_refl _) new
    refine ⟨.ref s.heap.objs.size, _, I1, rfl, ⟨_, u, rfl, I.hok.fresh (Nat.le_refl _), rfl, fun vs hv => by rw [I.tuple_inj hv hq]; exact hu⟩, ⟨⟨x, ?_⟩, hst.1.at fun o q => (sb.2 it (Ne.symm hne)).trans q, hne, hai, hea⟩, fun b hb => ?_⟩
    · rw [show ((i + 1 : Nat) : Int) = (i : Int) + 1 by omega]; exact he'
    · have lb : b < s.heap.objs.size := by
        rcases (show b = e ∨ b = it by simpa using hb) with z | z
        · rw [z]; exact hel
        · rw [z]; exact hil
      rw [upd_ne (Nat.ne_of_lt lb)]
      exact (hf b hb).1
  done := by
    intro X hP hw hK hc i pins s σ H E I hf st hg
    subst hP hw hK
    obtain ⟨⟨old, he⟩, hit, hne, hai, hea⟩ := st
    obtain ⟨us, hq, hl⟩ := hg
    obtain ⟨its, rv, tp, hz⟩ := I.tuple hq
    obtain ⟨f0, f1, f2, f3, f4, f5⟩ := hf it (by simp)
    have hd : X.A.in1.handled = none := I.ok.hd hc
    have le : its.length ≤ i := by rw [← rv.length]; exact hl
    have dd : PySem.Draws X.prog X.w X.A.in1 it [it, a] i (fun _ _ => False) (fun j h => j = i ∧ h.IsTupleIter it a i ∧ h.IsTuple a its.toArray) := {
      live := fun _ _ st => let ⟨o, ho, _⟩ := st.2.1; ⟨o, ho⟩
      frame := fun _ _ _ st hk => ⟨st.1, st.2.1.at fun o q => hk it (by simp) o q, st.2.2.at fun o q => hk a (by simp) o q⟩
      item := fun j s Q E lt st => absurd st.1 (Nat.ne_of_lt lt)
      done := fun s Q E st hE => wpAny_nextOf_tuple_end hd st.2.1 st.2.2 (by simpa using le) hE }
    exact wpAny_pyNext_enum_endD dd he ⟨rfl, hit, tp⟩ fun h' eb => ⟨rfl, I.turned (t' := s.toks) (fun b o hb q => eb b o hb q) f0 f1 f3 f4 f5⟩
  self := fun A i s Q E st h => let ⟨⟨_, he⟩, _⟩ := st; wpAny_pyIter_enum he h
/-- enumerate over a list or a tuple -/
def iEnumA (K : PySem.W.Frag) (ta : TA) : TI := fun σ H R => ta σ H fun vs H1 => ∃ a us, vs = [.ref a] ∧ ((SqL K H1 a us ∧ R (Ite K a) H1) ∨ (SqT K H1 a us ∧ R (IteT K a) H1))
theorem pi_enumA {X : L2.Cx} {e : Expr} {ta : TA} {p pos tpos : Pos} {elts : List Expr} {kk : Nat} (hg : Gl X "enumerate") (hm : X.mg "enumerate" = none) (ha : PA X [e] ta) (hs : starEach [e] X.env = [(false, eval e X.env)]) :
    PI X (.Tuple elts kk tpos) (.Call (.Name "enumerate" p) [e] [] pos) (iEnumA X.K ta) := by
  refine ⟨fun pins s σ H R I h => ?_⟩
  refine Call_ (L2.ld_blt I hg hm boot_enumerate (PyProof.Rows.callWith_type1 (thn (ha.run pos pins s σ H _ I h) fun us s1 ⟨vs, H1, I1, r1, q1⟩ => ?_) hs rfl))
  obtain ⟨a, ws, rfl, q1⟩ := q1
  obtain ⟨y, rfl, ry⟩ : ∃ y, us = [y] ∧ L2.RelV (.ref a) y := by
    cases r1 with
    | cons r rr => cases rr; exact ⟨_, rfl, r⟩
  cases ry
  have two : ∀ b, b ∈ [s1.heap.objs.size + 1, s1.heap.objs.size] → L2.FpOk X pins H1 b := fun b hb => by
    have hle : s1.heap.objs.size ≤ b := by
      rcases (show b = s1.heap.objs.size + 1 ∨ b = s1.heap.objs.size by simpa using hb) with z | z
      · rw [z]; exact Nat.le_add_right _ _
      · rw [z]; exact Nat.le_refl _
    exact I1.fpOk hle (I1.hok.fresh hle)
  rcases q1 with ⟨hq, q⟩ | ⟨hq, q⟩
  · obtain ⟨its, rv, lp, hz⟩ := I1.list hq
    refine enum_call (begins_list a its.toArray) lp.isList fun h' he ho hk => wpAny_pyIter_enum he ?_
    exact ⟨s1.heap.objs.size + 1, [s1.heap.objs.size + 1, s1.heap.objs.size], _, _, H1, rfl, I1.kept (t' := s1.toks) hk, L2.turn_enum a (s1.heap.objs.size + 1) s1.heap.objs.size, ⟨⟨.none, he⟩, ⟨_, ho, rfl, rfl⟩, Nat.succ_ne_self _⟩, two, q⟩
  · obtain ⟨its, rv, tp, hz⟩ := I1.tuple hq
    have la : a < s1.heap.objs.size := by obtain ⟨o, q, _⟩ := id tp; exact Heap.lt_size q
    refine enum_call (begins_tuple a its.toArray) (show s1.heap.IsTuple a its.toArray from tp) fun h' he ho hk => wpAny_pyIter_enum he ?_
    exact ⟨s1.heap.objs.size + 1, [s1.heap.objs.size + 1, s1.heap.objs.size], _, _, H1, rfl, I1.kept (t' := s1.toks) hk, turn_enumT a (s1.heap.objs.size + 1) s1.heap.objs.size, ⟨⟨.none, he⟩, ⟨_, ho, rfl, rfl⟩, Nat.succ_ne_self _, Nat.ne_of_lt la, Ne.symm (Nat.ne_of_lt (Nat.lt_succ_of_lt la))⟩, two, q⟩
variable [KF]
section
variable {Hs H : Hp} {K : PySem.W.Frag}
theorem wlk_enumT {a : Addr} {us : List V} {xs : List D} {vs : List V} (h : ShA Hs xs us) (ha : H a = some (.tup us)) (hv : V.ref a ∈ vs) : Wlk Hs (IteT K a) (enumD 0 xs) (Held vs H) := by
  refine ⟨fun i H' hi g => ?_, fun H' g => ?_, fun i H' v H2 Hs' x e g sb sub y => ?_⟩
  · rw [enumD_len] at hi
    obtain ⟨w, e, _⟩ := h.get (List.getElem?_eq_getElem hi)
    exact ⟨us, w, L2.SqT.of (g a _ hv ha), e⟩
  · exact ⟨us, L2.SqT.of (g a _ hv ha), by rw [enumD_len, h.len]; exact Nat.le_refl _⟩
  · obtain ⟨T, w, rfl, hT, rfl, y⟩ := y
    have y2 := y us (L2.SqT.of (g a _ hv ha))
    rw [enumD_at] at e
    cases q : xs[i]? with
    | none => rw [q] at e; cases e
    | some z =>
      rw [q] at e
      simp only [Option.map_some, Option.some.injEq, Nat.zero_add] at e
      subst e
      exact ⟨_, pair_sh hT sub rfl (Sh.mono sb (h.at q y2)), .inr ⟨T, _, hT, rfl, rfl⟩⟩
end
end Itp

/-! Iter3: zip of a list and a tuple, in whatever order. -/
namespace Itp
open PySem PySem.Spec PyProof.Rows
open L2 (V Hp HO upd upd_same upd_ne Inv SqL SqT It TI TA PI PA thn Turn Ite Gl ObjOk)
/-- a tuple (t), else a list -/
def SqB (t : Bool) (K : PySem.W.Frag) (H : Hp) (a : Addr) (us : List V) : Prop := match t with
  | true => SqT K H a us
  | false => SqL K H a us
def itB (t : Bool) (h : Heap) (it a : Addr) (i : Nat) : Prop := match t with
  | true => h.IsTupleIter it a i
  | false => h.IsListIter it a i
def sqB (t : Bool) (h : Heap) (a : Addr) (its : Array Value) : Prop := match t with
  | true => h.IsTuple a its
  | false => h.IsList a its
def obB (t : Bool) (a : Addr) : Obj := match t with
  | true => { cls := .type "tuple_iterator", data := .fields #[.ref a, .int 0 0] }
  | false => { cls := .type "list_iterator", data := .fields #[.ref a, .int 0 0] }
theorem begB (t : Bool) (a : Addr) (its : Array Value) : Begins (.ref a) (obB t a) fun h => sqB t h a its := by
  cases t
  · exact begins_list a its
  · exact begins_tuple a its
theorem itB_new {t : Bool} {h : Heap} {it a : Addr} (e : h.get? it = some (obB t a)) : itB t h it a 0 := by
  cases t
  · exact ⟨_, e, rfl, rfl⟩
  · exact ⟨_, e, rfl, rfl⟩
theorem itB_at {t : Bool} {h h' : Heap} {it a : Addr} {i : Nat} (x : itB t h it a i) (k : ∀ o, h.get? it = some o → h'.get? it = some o) : itB t h' it a i := by
  cases t
  · exact Heap.IsListIter.at x k
  · exact Heap.IsTupleIter.at x k
theorem itB_obj {t : Bool} {h : Heap} {it a : Addr} {i : Nat} (x : itB t h it a i) : ∃ o, h.get? it = some o ∧ ∀ v, o.data ≠ .cell v := by
  cases t
  · obtain ⟨o, e, _, d⟩ := x
    exact ⟨o, e, fun v q => by rw [d] at q; cases q⟩
  · obtain ⟨o, e, _, d⟩ := x
    exact ⟨o, e, fun v q => by rw [d] at q; cases q⟩
theorem dwB (t : Bool) {P : Program} {W : World} {A : Around} (hd : A.handled = none) (it a : Addr) (ne : a ≠ it) (its : Array Value) :
    PySem.Draws P W A it [it, a] its.size (fun i v => its[i]? = some v) (fun i h => itB t h it a i ∧ sqB t h a its) := by
  cases t
  · exact PySem.Draws.list hd it a ne its
  · exact PySem.Draws.tuple hd it a ne its
/-- an iterator at its end -/
theorem dwEnd (t : Bool) {P : Program} {W : World} {A : Around} (hd : A.handled = none) (it a : Addr) (its : Array Value) {i : Nat} (le : its.size ≤ i) :
    PySem.Draws P W A it [it, a] i (fun _ _ => False) (fun j h => j = i ∧ itB t h it a i ∧ sqB t h a its) where
  live := fun _ _ st => let ⟨o, e, _⟩ := itB_obj st.2.1; ⟨o, e⟩
  frame := fun _ _ _ st hk => ⟨st.1, itB_at st.2.1 fun o q => hk it (by simp) o q, by
    cases t
    · exact Heap.IsList.at st.2.2 fun o q => hk a (by simp) o q
    · exact Heap.IsTuple.at st.2.2 fun o q => hk a (by simp) o q⟩
  item := fun j s Q E lt st => absurd st.1 (Nat.ne_of_lt lt)
  done := fun s Q E st hE => by
    cases t
    · exact wpAny_nextOf_list_end hd st.2.1 st.2.2 (by simpa using le) hE
    · exact wpAny_nextOf_tuple_end hd st.2.1 st.2.2 (by simpa using le) hE
theorem sqB_inv {t : Bool} {X : L2.Cx} {pins : List (Addr × Obj)} {σ : L2.St} {H : Hp} {s : Shared} (I : Inv X pins σ H s) {a : Addr} {us : List V} (q : SqB t X.K H a us) :
    ∃ its : List Value, L2.Vals us its ∧ sqB t s.heap a its.toArray ∧ a < s.heap.objs.size := by
  cases t
  · obtain ⟨its, rv, lp, _⟩ := I.list q
    exact ⟨its, rv, lp.isList, lp.lt⟩
  · obtain ⟨its, rv, tp, _⟩ := I.tuple q
    exact ⟨its, rv, tp, by obtain ⟨o, e, _⟩ := id tp; exact Heap.lt_size e⟩
theorem sqB_inj {t : Bool} {X : L2.Cx} {pins : List (Addr × Obj)} {σ : L2.St} {H : Hp} {s : Shared} (I : Inv X pins σ H s) {a : Addr} {us ws : List V} (q : SqB t X.K H a us) (q2 : SqB t X.K H a ws) : us = ws := by
  cases t
  · exact I.list_inj q q2
  · exact I.tuple_inj q q2
/-- both walked at once, each two items in a new pair -/
def ItzM (K : PySem.W.Frag) (t1 t2 : Bool) (a b : Addr) : It :=
  ⟨fun i H => ∃ (us ws : List V) (u w : V), SqB t1 K H a us ∧ SqB t2 K H b ws ∧ us[i]? = some u ∧ ws[i]? = some w,
    fun i H v H' => ∃ T u w, v = .ref T ∧ H T = none ∧ H' = upd H T (.tup [u, w]) ∧ (∀ us, SqB t1 K H a us → us[i]? = some u) ∧ ∀ ws, SqB t2 K H b ws → ws[i]? = some w,
    fun i H => ∃ us ws : List V, SqB t1 K H a us ∧ SqB t2 K H b ws ∧ (us.length ≤ i ∨ ws.length ≤ i)⟩
theorem no2 {x a b : Addr} (h : x ≠ a) (h2 : x ≠ b) : x ∉ [a, b] := fun z => by
  rcases List.mem_cons.mp z with z | z
  · exact h z
  · exact h2 (List.mem_singleton.mp z)
theorem five {z TI TO i1 i2 c : Addr} (h : c ∈ [z, TI, TO, i1, i2]) : c = z ∨ c = TI ∨ c = TO ∨ c = i1 ∨ c = i2 := by simpa using h
theorem turn_zipM {P : Program} {w : World} {K : PySem.W.Frag} {elts : List Expr} {kk : Nat} {tpos : Pos} {t1 t2 : Bool} {a b z TI TO i1 i2 : Addr} (S : ZipSep2 z TI TO i1 i2 [i1, a] [i2, b]) (n1 : a ≠ i1) (n2 : b ≠ i2) :
    Turn P w K (.Tuple elts kk tpos) (ItzM K t1 t2 a b) [z, TI, TO, i1, i2] z (fun i h => IsZip h z TI TO .none ∧ IsTupOf2 h TI (.ref i1) (.ref i2) ∧ (∃ x y, IsTupOf2 h TO x y) ∧ itB t1 h i1 a i ∧ itB t2 h i2 b i) where
  mem := List.mem_cons_self
  obj := fun i h st c hc => by
    obtain ⟨hz, hTI, ⟨x, y, hTO⟩, h1, h2⟩ := st
    rcases five hc with rfl | rfl | rfl | rfl | rfl
    · exact ⟨_, hz, fun v q => nomatch q⟩
    · exact ⟨_, hTI, fun v q => nomatch q⟩
    · exact ⟨_, hTO, fun v q => nomatch q⟩
    · exact itB_obj h1
    · exact itB_obj h2
  keep := fun i h h' st k => by
    obtain ⟨hz, hTI, ⟨x, y, hTO⟩, h1, h2⟩ := st
    exact ⟨k _ (by simp) _ hz, k _ (by simp) _ hTI, ⟨x, y, k _ (by simp) _ hTO⟩, itB_at h1 fun o e => k _ (by simp) o e, itB_at h2 fun o e => k _ (by simp) o e⟩
  item := by
    intro X hP hw hK hc i pins s σ H E I hf st hg
    subst hP hw hK
    obtain ⟨hz, hTI, ⟨x0, y0, hTO⟩, h1, h2⟩ := st
    obtain ⟨us, ws, u, w, q1, q2, e1, e2⟩ := hg
    obtain ⟨its, rv, p1, _⟩ := sqB_inv I q1
    obtain ⟨its2, rv2, p2, _⟩ := sqB_inv I q2
    obtain ⟨y1, g1, r1⟩ := rv.get e1
    obtain ⟨y2, g2, r2⟩ := rv2.get e2
    have zl : z < s.heap.objs.size := Heap.lt_size hz
    have hd : X.A.in1.handled = none := I.ok.hd hc
    have l1 : i < its.toArray.size := by
      have := (List.getElem?_eq_some_iff.mp g1).1
      simpa using this
    have l2 : i < its2.toArray.size := by
      have := (List.getElem?_eq_some_iff.mp g2).1
      simpa using this
    refine wpAny_pyNext_zipD2_item S (dwB t1 hd i1 a n1 its.toArray) (dwB t2 hd i2 b n2 its2.toArray) hz hTI hTO ⟨h1, p1⟩ ⟨h2, p2⟩ l1 l2 fun x1 x2 h' tk m1 m2 z' TO' s1 s2 hT hsz hk => ?_
    have ex1 : y1 = x1 := by
      have : its.toArray[i]? = some x1 := m1
      rw [List.getElem?_toArray, g1] at this
      exact Option.some.inj this
    have ex2 : y2 = x2 := by
      have : its2.toArray[i]? = some x2 := m2
      rw [List.getElem?_toArray, g2] at this
      exact Option.some.inj this
    subst ex1 ex2
    refine ⟨_, rfl, wpAny_letOwnedTupleGo_zip (s := { s with heap := h', toks := tk }) z' fun h'' z'' sb => ?_⟩
    have hT2 : h''.get? s.heap.objs.size = some { cls := .type "tuple", data := .seq #[y1, y2] } := (sb.2 _ (Nat.ne_of_gt zl)).trans hT
    have fresh : ObjOk X.prog X.w (upd H s.heap.objs.size (.tup [u, w])) h'' s.heap.objs.size (.tup [u, w]) :=
      ⟨by show 2 ≤ sizeLine; decide, [y1, y2], .cons r1 (.cons r2 .nil), ⟨_, hT2, rfl, _, rfl⟩⟩
    have I1 : Inv X pins σ (upd H s.heap.objs.size (.tup [u, w])) { s with heap := h'', toks := tk } :=
      I.turnedNew (ch := [z, TI, TO, i1, i2]) (fun c o hb q => (sb.2 c (fun e => hb (by simp [e]))).trans (hk c o (fun e => hb (by simp [e])) (fun e => hb (by simp [e])) (fun e => hb (by simp [e])) (fun e => hb (by simp [e])) q)) hf (Nat.le_refl _) fresh
    refine ⟨.ref s.heap.objs.size, _, I1, rfl, ⟨_, u, w, rfl, I.hok.fresh (Nat.le_refl _), rfl, fun vs hv => by rw [sqB_inj I hv q1]; exact e1, fun vs hv => by rw [sqB_inj I hv q2]; exact e2⟩, ⟨z'', (sb.2 _ S.TIz).trans (hk _ _ S.TIz S.TITO S.TIi1 S.TIi2 hTI), ⟨y1, y2, (sb.2 _ S.TOz).trans TO'⟩, itB_at s1.1 fun o q => (sb.2 _ (Ne.symm S.zi1)).trans q, itB_at s2.1 fun o q => (sb.2 _ (Ne.symm S.zi2)).trans q⟩, fun c hcm => ?_⟩
    have lc : c < s.heap.objs.size := by
      rcases five hcm with rfl | rfl | rfl | rfl | rfl
      · exact zl
      · exact Heap.lt_size hTI
      · exact Heap.lt_size hTO
      · obtain ⟨_, e, _⟩ := itB_obj h1; exact Heap.lt_size e
      · obtain ⟨_, e, _⟩ := itB_obj h2; exact Heap.lt_size e
    rw [upd_ne (Nat.ne_of_lt lc)]
    exact (hf c hcm).1
  done := by
    intro X hP hw hK hc i pins s σ H E I hf st hg
    subst hP hw hK
    obtain ⟨hz, hTI, ⟨x0, y0, hTO⟩, h1, h2⟩ := st
    obtain ⟨us, ws, q1, q2, hend⟩ := hg
    obtain ⟨its, rv, p1, _⟩ := sqB_inv I q1
    obtain ⟨its2, rv2, p2, _⟩ := sqB_inv I q2
    have hd : X.A.in1.handled = none := I.ok.hd hc
    have len1 := rv.length
    have len2 := rv2.length
    have fin : ∀ (h' : Heap) (tk : Nat), (∀ c o, c ≠ z → c ≠ TO → c ≠ i1 → c ≠ i2 → s.heap.get? c = some o → h'.get? c = some o) → Inv X pins σ H { s with heap := h', toks := tk } := fun h' tk hk =>
      I.turnedL (ch := [z, TI, TO, i1, i2]) (fun c o hb q => hk c o (fun e => hb (by simp [e])) (fun e => hb (by simp [e])) (fun e => hb (by simp [e])) (fun e => hb (by simp [e])) q) hf
    by_cases c1 : its.toArray.size ≤ i
    · by_cases c2 : its2.toArray.size ≤ i
      · exact wpAny_pyNext_zipD2_end S (dwEnd t1 hd i1 a its.toArray c1) (dwEnd t2 hd i2 b its2.toArray c2) hz hTI hTO ⟨rfl, h1, p1⟩ ⟨rfl, h2, p2⟩ (Nat.le_refl _) (Nat.le_refl _) (.inl rfl) fun h' tk hk => ⟨rfl, fin h' tk hk⟩
      · exact wpAny_pyNext_zipD2_end S (dwEnd t1 hd i1 a its.toArray c1) (dwB t2 hd i2 b n2 its2.toArray) hz hTI hTO ⟨rfl, h1, p1⟩ ⟨h2, p2⟩ (Nat.le_refl _) (by omega) (.inl rfl) fun h' tk hk => ⟨rfl, fin h' tk hk⟩
    · have c2 : its2.toArray.size ≤ i := by
        rw [List.size_toArray] at c1 ⊢
        rcases hend with q | q <;> omega
      exact wpAny_pyNext_zipD2_end S (dwB t1 hd i1 a n1 its.toArray) (dwEnd t2 hd i2 b its2.toArray c2) hz hTI hTO ⟨h1, p1⟩ ⟨rfl, h2, p2⟩ (by omega) (Nat.le_refl _) (.inr rfl) fun h' tk hk => ⟨rfl, fin h' tk hk⟩
  self := fun A i s Q E st h => wpAny_pyIter_zip st.1 h
/-- zip of two lists, two tuples, or one of each -/
def iZipM (K : PySem.W.Frag) (ta : TA) : TI := fun σ H R => ta σ H fun vs H1 => ∃ t1 t2 a b us ws, vs = [.ref a, .ref b] ∧ SqB t1 K H1 a us ∧ SqB t2 K H1 b ws ∧ R (ItzM K t1 t2 a b) H1
theorem pi_zipM {X : L2.Cx} {e e2 : Expr} {ta : TA} {p pos tpos : Pos} {elts : List Expr} {kk : Nat} (hg : Gl X "zip") (hm : X.mg "zip" = none) (ha : PA X [e, e2] ta)
    (hs : starEach [e, e2] X.env = (false, eval e X.env) :: starEach [e2] X.env := by rfl) (hpl : (backTo pos (starEach [e2] X.env)).any (·.1) = false := by rfl) :
    PI X (.Tuple elts kk tpos) (.Call (.Name "zip" p) [e, e2] [] pos) (iZipM X.K ta) := by
  refine ⟨fun pins s σ H R I h => ?_⟩
  refine Call_ (L2.ld_blt I hg hm PyProof.Rows.boot_zip (PyProof.Rows.callWith_type1 (thn (ha.run pos pins s σ H _ I h) fun us s1 ⟨vs, H1, I1, r1, q1⟩ => ?_) hs hpl))
  obtain ⟨t1, t2, a, b, xs, ys, rfl, q1, q2, q⟩ := q1
  obtain ⟨y1, y2, rfl, ry1, ry2⟩ : ∃ y1 y2, us = [y1, y2] ∧ L2.RelV (.ref a) y1 ∧ L2.RelV (.ref b) y2 := by
    cases r1 with
    | cons r rr => cases rr with
      | cons r' rr => cases rr; exact ⟨_, _, rfl, r, r'⟩
  cases ry1
  cases ry2
  obtain ⟨its, rv, p1, la⟩ := sqB_inv I1 q1
  obtain ⟨its2, rv2, p2, lb⟩ := sqB_inv I1 q2
  have all5 : ∀ c, c ∈ [s1.heap.objs.size + 4, s1.heap.objs.size + 2, s1.heap.objs.size + 3, s1.heap.objs.size, s1.heap.objs.size + 1] → L2.FpOk X pins H1 c := fun c hcm => by
    have hle : s1.heap.objs.size ≤ c := by
      rcases five hcm with z | z | z | z | z <;> rw [z] <;> first | exact Nat.le_refl _ | exact Nat.le_add_right _ _
    exact I1.fpOk hle (I1.hok.fresh hle)
  refine zip_begins2 (begB t1 a its.toArray) (begB t2 b its2.toArray) p1 p2 fun h' hz hTI hTO h1 h2 hsz hk => wpAny_pyIter_zip hz ?_
  refine ⟨s1.heap.objs.size + 4, _, _, _, H1, rfl, I1.kept (t' := s1.toks) hk, turn_zipM (t1 := t1) (t2 := t2) (a := a) (b := b) ?_ (Nat.ne_of_lt la) (Nat.ne_of_lt (Nat.lt_succ_of_lt lb)), ⟨hz, hTI, ⟨_, _, hTO⟩, itB_new h1, itB_new h2⟩, all5, q⟩
  have n0 : ∀ (n : Nat) {i j : Nat}, i ≠ j → n + i ≠ n + j := fun n i j h e => h (Nat.add_left_cancel e)
  have n1 : ∀ {n x : Nat} (i : Nat), x < n → n + i ≠ x := fun {n x} i h e => by omega
  have z1 : s1.heap.objs.size + 4 ≠ s1.heap.objs.size := fun h => by omega
  have z2 : s1.heap.objs.size + 3 ≠ s1.heap.objs.size := fun h => by omega
  have z3 : s1.heap.objs.size + 2 ≠ s1.heap.objs.size := fun h => by omega
  have z4 : s1.heap.objs.size + 1 ≠ s1.heap.objs.size := fun h => by omega
  have z5 : s1.heap.objs.size + 4 ≠ s1.heap.objs.size + 1 := fun h => by omega
  have z6 : s1.heap.objs.size + 3 ≠ s1.heap.objs.size + 1 := fun h => by omega
  have z7 : s1.heap.objs.size + 2 ≠ s1.heap.objs.size + 1 := fun h => by omega
  exact ⟨n0 _ (by decide), n0 _ (by decide), n0 _ (by decide), z3, List.mem_cons_self, no2 z1 (n1 4 la), no2 z2 (n1 3 la), z7, List.mem_cons_self, no2 z5 (n1 4 lb), no2 z6 (n1 3 lb), no2 z4.symm (n1 0 lb), no2 z4 (n1 1 la)⟩
variable [KF]
section
variable {Hs H : Hp} {K : PySem.W.Frag}
theorem SqB.of {t : Bool} {H : Hp} {a : Addr} {us : List V} (h : H a = some (if t = true then .tup us else .lst us)) : SqB t K H a us := by
  cases t
  · exact SqL.of h
  · exact SqT.of h
theorem wlk_zipM {t1 t2 : Bool} {a b : Addr} {us ws : List V} {xs ys : List D} {vs : List V} (h : ShA Hs xs us) (h2 : ShA Hs ys ws) (ha : H a = some (if t1 = true then .tup us else .lst us)) (hb : H b = some (if t2 = true then .tup ws else .lst ws)) (hv : V.ref a ∈ vs) (hv2 : V.ref b ∈ vs) :
    Wlk Hs (ItzM K t1 t2 a b) (zipD xs ys) (Held vs H) := by
  have l1 := h.len
  have l2 := h2.len
  refine ⟨fun i H' hi g => ?_, fun H' g => ?_, fun i H' v H2 Hs' x e g sb sub y => ?_⟩
  · rw [zipD_len] at hi
    obtain ⟨w, e, _⟩ := h.get (List.getElem?_eq_getElem (show i < xs.length by omega))
    obtain ⟨w2, e2, _⟩ := h2.get (List.getElem?_eq_getElem (show i < ys.length by omega))
    exact ⟨us, ws, w, w2, SqB.of (g a _ hv ha), SqB.of (g b _ hv2 hb), e, e2⟩
  · exact ⟨us, ws, SqB.of (g a _ hv ha), SqB.of (g b _ hv2 hb), by rw [zipD_len]; omega⟩
  · obtain ⟨T, w, w2, rfl, hT, rfl, y1, y2⟩ := y
    obtain ⟨dx, dy, e1, e2, rfl⟩ := zipD_at _ _ _ _ e
    exact ⟨_, pair_sh hT sub (Sh.mono sb (h.at e1 (y1 us (SqB.of (g a _ hv ha))))) (Sh.mono sb (h2.at e2 (y2 ws (SqB.of (g b _ hv2 hb))))), .inr ⟨T, _, hT, rfl, rfl⟩⟩
end
end Itp

/-! Rng: range of any two ints. -/
namespace Itp
open PySem PySem.Spec PyProof.Rows
open L2 (V Hp HO upd upd_same upd_ne Inv SqL SqT It TI TA PI PIE PA thn Turn Ite Itr Gl ObjOk Cx ld_blt go_of)
theorem turn_long {P : Program} {w : World} {K : PySem.W.Frag} {tg : Expr} (it : Addr) (lo : Int) (n : Nat) : Turn P w K tg (Itr lo n) [it] it (fun i h => IsLongIter h it (lo + (i : Nat) * 1) ((n : Int) - (i : Nat)) 1) where
  mem := by simp
  obj := fun i h st b hb => by
    have e : b = it := by simpa using hb
    subst e
    exact ⟨_, st, fun v z => by
      have z' : Data.fields _ = Data.cell v := z
      cases z'⟩
  keep := fun i h h' st k => k it (by simp) _ st
  item := by
    intro X hP hw hK hc i pins s σ H E I hf st hg
    subst hP hw hK
    obtain ⟨f0, f1, f2, f3, f4, f5⟩ := hf it (by simp)
    have W := Walks.longrange (prog := X.prog) (w := X.w) (I.ok.hd hc) it lo 1 n
    refine W.item i s _ _ hg st fun v h' tk hv st' kk => ?_
    obtain ⟨t, rfl⟩ := hv
    have I1 : Inv X pins σ H { s with heap := h', toks := tk } := I.turned (fun b o hb e => kk b o (by simpa using hb) e) f0 f1 f3 f4 f5
    refine ⟨_, rfl, go_of (s := { s with heap := h', toks := tk }) (n := "longrange_iterator") st' rfl rfl (by decide) ⟨.int (lo + i), H, I1, ⟨t, ?_⟩, ⟨rfl, rfl⟩, st', fun b hb => (hf b hb).1⟩⟩
    rw [Int.mul_one]
  done := by
    intro X hP hw hK hc i pins s σ H E I hf st hg
    subst hP hw hK
    obtain ⟨f0, f1, f2, f3, f4, f5⟩ := hf it (by simp)
    exact wpAny_pyNext_long_end (I.ok.hd hc) st (by have : n ≤ i := hg; omega) fun h' eb => ⟨rfl, I.turned (t' := s.toks) (fun b o hb e => eb b o hb e) f0 f1 f3 f4 f5⟩
  self := fun _ _ _ _ _ st h => wpAny_pyIter_longiter st h
section
variable {X : Cx} {tg : Expr}
theorem range_any {pins : List (Addr × Obj)} {σ : L2.St} {H : Hp} {s : Shared} {R : It → Hp → Prop} {E : Value → Shared → Prop} {lo hi : Int} {t u v : Tok} {tk : Nat} (I : Inv X pins σ H s)
    (q : R (Itr lo (hi - lo).toNat) H) : wpAny (model X.prog X.w) X.A (pyIter (.ref s.heap.objs.size)) (PIE X pins σ tg R) E { s with heap := s.heap.push { cls := .type "range", data := .fields #[.int lo t, .int hi u, .int 1 v] }, toks := tk } := by
  have I1 : Inv X pins σ H { s with heap := s.heap.push { cls := .type "range", data := .fields #[.int lo t, .int hi u, .int 1 v] }, toks := tk } := I.kept fun b o e => Heap.get?_push_of_some _ e
  have e1 : lo + ((0 : Nat) : Int) * 1 = lo := by simp
  have e2 : (((hi - lo).toNat : Nat) : Int) - ((0 : Nat) : Int) = Builtin.Range.rangeSize lo hi 1 := by rw [rangeSize_one]; split <;> omega
  cases hs : Builtin.Range.small lo hi 1 with
  | true =>
    refine wpAny_pyIter_range (IsRange.new ..) hs ?_
    refine ⟨(s.heap.push { cls := .type "range", data := .fields #[.int lo t, .int hi u, .int 1 v] }).objs.size, [(s.heap.push { cls := .type "range", data := .fields #[.int lo t, .int hi u, .int 1 v] }).objs.size], _, _, H, rfl,
      I1.kept (t' := tk) fun b o e => Heap.get?_push_of_some _ e, L2.turn_range _ lo (hi - lo).toNat, ?_, fun b hb => ?_, q⟩
    · show IsRangeIter _ _ (lo + ((0 : Nat) : Int) * 1) ((((hi - lo).toNat : Nat) : Int) - ((0 : Nat) : Int)) 1
      rw [e1, e2]
      exact Heap.get?_push_size _ rfl
    · have e : b = (s.heap.push { cls := .type "range", data := .fields #[.int lo t, .int hi u, .int 1 v] }).objs.size := by simpa using hb
      subst e
      exact I1.fpOk (Nat.le_refl _) (I1.hok.fresh (Nat.le_refl _))
  | false =>
    refine wpAny_pyIter_longrange (IsRange.new ..) hs ?_
    refine ⟨(s.heap.push { cls := .type "range", data := .fields #[.int lo t, .int hi u, .int 1 v] }).objs.size, [(s.heap.push { cls := .type "range", data := .fields #[.int lo t, .int hi u, .int 1 v] }).objs.size], _, _, H, rfl,
      I1.kept (t' := tk) fun b o e => Heap.get?_push_of_some _ e, turn_long _ lo (hi - lo).toNat, ?_, fun b hb => ?_, q⟩
    · show IsLongIter _ _ (lo + ((0 : Nat) : Int) * 1) ((((hi - lo).toNat : Nat) : Int) - ((0 : Nat) : Int)) 1
      rw [e1, e2]
      exact Heap.get?_push_size _ rfl
    · have e : b = (s.heap.push { cls := .type "range", data := .fields #[.int lo t, .int hi u, .int 1 v] }).objs.size := by simpa using hb
      subst e
      exact I1.fpOk (Nat.le_refl _) (I1.hok.fresh (Nat.le_refl _))
def iRngA (ta : TA) : TI := fun σ H R => ta σ H fun vs H1 => ∃ i j : Int, vs = [.int i, .int j] ∧ R (Itr i (j - i).toNat) H1
theorem pi_rangeA {a b : Expr} {ta : TA} {p pos : Pos} (hg : Gl X "range") (hm : X.mg "range" = none) (ha : PA X [a, b] ta) (hs : starEach [a, b] X.env = [(false, eval a X.env), (false, eval b X.env)] := by rfl) (hs2 : starEach [b] X.env = [(false, eval b X.env)] := by rfl) :
    PI X tg (.Call (.Name "range" p) [a, b] [] pos) (iRngA ta) := by
  refine ⟨fun pins s σ H R I h => ?_⟩
  refine Call_ (ld_blt I hg hm boot_range (PyProof.Rows.callWith_type1 (thn (ha.run pos pins s σ H _ I h) fun us s1 ⟨vs, H1, I1, r1, q1⟩ => ?_) (by rw [hs, hs2]) (by rw [hs2]; rfl)))
  obtain ⟨i, j, e, q⟩ := q1
  subst e
  cases r1 with
  | cons r rr =>
    cases rr with
    | cons r' rr =>
      cases rr
      obtain ⟨t, rfl⟩ := r
      obtain ⟨t', rfl⟩ := r'
      exact call_range_2 (range_any I1 q)
end
end Itp

/-! Cmp: from the given form to the core. -/
namespace Itp
open PySem
/-- what the text's top gives: its defs' names, its constants -/
structure Gs where
  fns : List Str
  csts : List (Str × D)
  /-- names whose lists are shared as soon as they are stored -/
  fz : List (List Str × List Str)
  /-- names whose lists are lent to calls (all others are shared) -/
  lt : List (List Str × List Str)
  /-- defs that change a list handed over as it is made -/
  tl : List Str
def ixOf : List Str → Str → Option Nat
  | [], _ => none
  | y :: ys, x => if y = x then some 0 else (ixOf ys x).map (· + 1)
theorem ixOf_at : ∀ {N : List Str} {x : Str} {i : Nat}, ixOf N x = some i → N[i]? = some x
  | [], _, _, h => by simp [ixOf] at h
  | y :: ys, x, i, h => by
    unfold ixOf at h
    split at h
    · rename_i e
      cases h
      simp [e]
    · simp only [Option.map_eq_some_iff] at h
      obtain ⟨j, h1, rfl⟩ := h
      simpa using ixOf_at h1
def nameOk (x : Str) : Bool := !(x == ("__debug__" : Str)) && !(x == ("__classdict__" : Str)) && !(x == ("__name__" : Str))
def mutOf (x : Str) : Option MU :=
  if x = ("append" : Str) then some .append else if x = ("pop" : Str) then some .pop else if x = ("reverse" : Str) then some .reverse else if x = ("clear" : Str) then some .clear
  else if x = ("extend" : Str) then some .extend else if x = ("insert" : Str) then some .insert else none
/-- methods that change nothing, of texts and lists -/
def mpOf (x : Str) : Option MP :=
  if x = ("index" : Str) then some .index else if x = ("count" : Str) then some .count else none
def bltOf (x : Str) : Option B :=
  if x = ("len" : Str) then some .len else if x = ("abs" : Str) then some .abs else if x = ("max" : Str) then some .max else if x = ("min" : Str) then some .min
  else if x = ("sum" : Str) then some .sum else if x = ("all" : Str) then some .all else if x = ("any" : Str) then some .any else if x = ("int" : Str) then some .int
  else if x = ("str" : Str) then some .str else if x = ("list" : Str) then some .list else if x = ("tuple" : Str) then some .tuple else if x = ("repr" : Str) then some .repr else none
/-- the built-in names that the text may not have stored -/
def bltNames : List Str := ["len", "abs", "max", "min", "sum", "all", "any", "int", "bool", "str", "list", "tuple", "dict", "sorted", "isinstance", "range", "enumerate", "zip", "reversed", "repr"]
def tyOf (x : Str) : Option String :=
  if x = ("int" : Str) then some "int" else if x = ("bool" : Str) then some "bool" else if x = ("str" : Str) then some "str" else if x = ("list" : Str) then some "list"
  else if x = ("tuple" : Str) then some "tuple" else if x = ("dict" : Str) then some "dict" else none
def isCall : Expr → Bool
  | .Call _ _ _ _ => true
  | _ => false
def compAll (f : Expr → Option E) : List Expr → Option E
  | [] => some .nil
  | e :: es => match f e, compAll f es with
    | some a, some b => some (.cons a b)
    | _, _ => none
def scalX : Expr → Bool
  | .Constant _ _ _ => true
  | .BinOp _ .Add _ _ => false
  | .BinOp _ _ _ _ => true
  | .Compare _ _ _ _ => true
  | _ => false
/-- an argument of a def of the text: lent, or shared ahead of the call -/
def argX (lt : List Str) (tl : Bool) (f : Expr → Option E) (e : Expr) : Option E := match e with
  | .Name x _ => if lt.contains x then f e else (f e).map .fz
  | _ => if scalX e || tl then f e else (f e).map .fz
def compOpt (f : Expr → Option E) : Option Expr → Option E
  | none => some .nop
  | some e => match f e with
    | some .nop => none
    | r => r
def isLoc (sc : Scope) (x : Str) : Bool := match sc.names.lookup x with
  | some .local => true
  | some .cell => true
  | _ => false
def compTg (N : List Str) (sc : Scope) : Nat → Expr → Option Tg
  | 0, _ => none
  | n + 1, e => match e with
    | .Name x _ => if isLoc sc x then (ixOf N x).map .nm else none
    | .Tuple es _ _ => (compTgs (compTg N sc n) es).map .tp
    | _ => none
where compTgs (f : Expr → Option Tg) : List Expr → Option Tg
  | [] => some .nil
  | e :: es => match e with
    | .Starred _ _ => none
    | _ => match f e, compTgs f es with
      | some a, some b => some (.cons a b)
      | _, _ => none
def isGl (sc : Scope) (x : Str) : Bool := match sc.names.lookup x with
  | some .globalImplicit => true
  | _ => false
/-- list(range(..)): what the range is of -/
def lstRg (sc : Scope) (fns : List Str) (f : Str) : List Expr → Option (List Expr)
  | [.Call (.Name r _) rs [] _] => if f = ("list" : Str) ∧ r = ("range" : Str) ∧ isGl sc r = true ∧ fns.contains r = false ∧ (rs.length = 1 ∨ rs.length = 2) then some rs else none
  | _ => none
def isTup : Expr → Bool
  | .Tuple _ _ _ => true
  | _ => false
/-- an iterable; tp: its items go to a written tuple -/
def compI (f : Expr → Option E) (sc : Scope) (gs : Gs) (tp : Bool) (it : Expr) : Option (Src × E) :=
  match it with
  | .Call (.Name g _) es [] _ =>
    if !nameOk g || !isGl sc g || gs.fns.contains g then (f it).map fun a => (.plain, .cons a .nil)
    else if g = ("range" : Str) then match es with
      | [_] => (compAll f es).map fun a => (.range, a)
      | [_, _] => (compAll f es).map fun a => (.range, a)
      | [_, _, _] => (compAll f es).map fun a => (.range, a)
      | _ => none
    else if g = ("reversed" : Str) then match es with
      | [_] => (compAll f es).map fun a => (.rev, a)
      | _ => none
    else if g = ("enumerate" : Str) then match es, tp with
      | [_], true => (compAll f es).map fun a => (.enum, a)
      | _, _ => none
    else if g = ("zip" : Str) then match es, tp with
      | [_, _], true => (compAll f es).map fun a => (.zip, a)
      | _, _ => none
    else (f it).map fun a => (.plain, .cons a .nil)
  | _ => (f it).map fun a => (.plain, .cons a .nil)
/-- the slots of a target -/
def slots : Tg → List Nat
  | .nm i => [i]
  | .tp t => slots t
  | .nil => []
  | .cons a b => slots a ++ slots b
/-- a block's own names, with their slots -/
def ownOf (N : List Str) (scope : Scope) : List (Str × Nat) := scope.names.filterMap fun y => match y.2 with
  | .local => (ixOf N y.1).map fun i => (y.1, i)
  | .cell => (ixOf N y.1).map fun i => (y.1, i)
  | _ => none
def compE (N : List Str) (gs : Gs) : Nat → Scope → Expr → Option E
  | 0, _, _ => none
  | n + 1, sc, ex => match ex with
    | .Name x _ => if nameOk x then match sc.names.lookup x with
        | some .local => (ixOf N x).map .var
        | some .cell => (ixOf N x).map .var
        | some .free => (ixOf N x).map .var
        | some .globalImplicit => (gs.csts.lookup x).map .cst
        | _ => none
      else none
    | .Constant c _ _ => match c with
      | .none => some (.cst .non)
      | .bool b => some (.cst (.bl b))
      | .int i => some (.cst (.int i))
      | .str s => some (.cst (.str s))
      | _ => none
    | .BinOp a op b _ => match compE N gs n sc a, compE N gs n sc b with
      | some x, some y => some (.bin op x y)
      | _, _ => none
    | .UnaryOp .USub a _ => (compE N gs n sc a).map .neg
    | .UnaryOp .Not a _ => (compE N gs n sc a).map .not_
    | .Compare a [op] [b] _ => match compE N gs n sc a, compE N gs n sc b with
      | some x, some y => some (.cmp op x y)
      | _, _ => none
    | .Compare a [o1, o2] [b, c] _ => match compE N gs n sc a, compE N gs n sc b, compE N gs n sc c with
      | some x, some y, some z => some (.chn o1 o2 x y z)
      | _, _, _ => none
    | .BoolOp _ [a] _ => compE N gs n sc a
    | .BoolOp .And (a :: b :: r) p => match compE N gs n sc a, compE N gs n sc (.BoolOp .And (b :: r) p) with
      | some x, some y => some (.and_ x y)
      | _, _ => none
    | .BoolOp .Or (a :: b :: r) p => match compE N gs n sc a, compE N gs n sc (.BoolOp .Or (b :: r) p) with
      | some x, some y => some (.or_ x y)
      | _, _ => none
    | .IfExp c a b _ => match compE N gs n sc c, compE N gs n sc a, compE N gs n sc b with
      | some x, some y, some z => some (.ite x y z)
      | _, _, _ => none
    | .Tuple es _ _ => (compAll (compE N gs n sc) es).map .tup
    | .List es _ => (compAll (compE N gs n sc) es).map .lst
    | .Subscript a b _ => match b with
      | .Slice lo hi st _ => match st with
        | none => match compE N gs n sc a, compOpt (compE N gs n sc) lo, compOpt (compE N gs n sc) hi with
          | some x, some y, some z => some (.slc x y z)
          | _, _, _ => none
        | some (.UnaryOp .USub (.Constant (.int 1) _ _) _) => match lo, hi with
          | none, none => (compE N gs n sc a).map .rv
          | _, _ => none
        | _ => none
      | _ => match compE N gs n sc a, compE N gs n sc b with
        | some x, some y => some (.idx x y)
        | _, _ => none
    | .Call (.Name f _) es [] _ => if !nameOk f || !isGl sc f then none
      else if gs.fns.contains f then (compAll (argX ((gs.lt.lookup N).getD []) (gs.tl.contains f) (compE N gs n sc)) es).map fun a => .call f a
      else match bltOf f with
        | some b => match lstRg sc gs.fns f es with
          | some rs => (compAll (compE N gs n sc) rs).map fun a => .blt .lrg a
          | none => match es with
            | [] => none
            | _ => (compAll (compE N gs n sc) es).map fun a => .blt b a
        | none =>
          if f = ("sorted" : Str) then match es with
            | [e] => (compE N gs n sc e).map .srt
            | _ => none
          else if f = ("isinstance" : Str) then match es with
            | [e, .Name t _] => if !nameOk t || !isGl sc t then none else match compE N gs n sc e, tyOf t with
              | some a, some ty => some (.isi a ty)
              | _, _ => none
            | _ => none
          else none
    | .Call (.Name f _) [e] [⟨some kn, .Constant (.bool true) _ _, _⟩] _ => if !isGl sc f || gs.fns.contains f then none
      else if f = ("sorted" : Str) then if kn = ("reverse" : Str) then (compE N gs n sc e).map .srr else none else none
    | .Call (.Attribute o m apos) es [] cpos => if !(apos.endLine == cpos.line) then none
      else match mpOf m with
      | some mp => match es with
        | [e] => if isCall o then none else match compE N gs n sc o, compE N gs n sc e with
          | some x, some y => some (.mth mp x (.cons y .nil))
          | _, _ => none
        | _ => none
      | none => match o, mutOf m with
        | .Name x _, some mu => if !nameOk x then none else if (isLoc sc x || sc.names.lookup x == some .free) && decide (es.length ≤ 2) then match ixOf N x, compAll (compE N gs n sc) es with
          | some i, some a => some (.chg mu i a)
          | _, _ => none
          else none
        | .Constant (.str s) _ _, none => if m = ("join" : Str) then match es with
            | [e] => (compE N gs n sc e).map fun a => .mth .join (.cst (.str s)) (.cons a .nil)
            | _ => none
          else none
        | _, _ => none
    | .ListComp elt [⟨tg, it, ifs, 0⟩] scope _ =>
      if L2.blkC N sc scope (ownOf N scope) then
        match compI (compE N gs n sc) sc gs (isTup tg) it, compTg N scope 8 tg, compE N gs n (L2.relS scope sc) elt with
        | some (k, as), some t, some e => if !(slots t).all (fun i => ((ownOf N scope).map (·.2)).contains i) then none else match ifs with
          | [] => some (.comp ((ownOf N scope).map (·.2)) t k as .nop e)
          | [c] => (compE N gs n (L2.relS scope sc) c).map fun cc => .comp ((ownOf N scope).map (·.2)) t k as cc e
          | _ => none
        | _, _, _ => none
      else none
    | _ => none
def notSwap (x : Str) (px : Pos) (e : Expr) (sc : Scope) : Bool := match e with
  | .ListComp _ _ s _ => !(sc.names.lookup x == some .local && px.line == e.pos.line && !(s.names.any fun (n, k) => n == x && (k == .local || k == .cell)))
  | .SetComp _ _ _ _ => false
  | .DictComp _ _ _ _ _ => false
  | _ => true
def isPlainVal : Expr → Bool
  | .ListComp _ _ _ _ => false
  | .SetComp _ _ _ _ => false
  | .DictComp _ _ _ _ _ => false
  | .Tuple _ _ _ => false
  | _ => true
def isSlice : Expr → Bool
  | .Slice _ _ _ _ => true
  | _ => false
def compSs (f : Stmt → Option S) : List Stmt → Option S
  | [] => some .skip
  | [s] => f s
  | s :: ss => match f s, compSs f ss with
    | some a, some b => some (.seq a b)
    | _, _ => none
def compS (N : List Str) (gs : Gs) (sc : Scope) : Nat → Stmt → Option S
  | 0, _ => none
  | n + 1, st => match st with
    | .Pass _ => some .skip
    | .Raise _ _ _ => some .never
    | .Break _ => some .brk
    | .Continue _ => some .cnt
    | .Return none _ => some .retn
    | .Return (some e) _ => (compE N gs n sc e).map .ret
    | .Expr e _ => if isPlainVal e then (compE N gs n sc e).map .ex else none
    | .If c a b _ => match compE N gs n sc c, compSs (compS N gs sc n) a, compSs (compS N gs sc n) b with
      | some x, some y, some z => some (.ite x y z)
      | _, _, _ => none
    | .While c b [] _ => match compE N gs n sc c, compSs (compS N gs sc n) b with
      | some x, some y => some (.while_ x y)
      | _, _ => none
    | .For tg it b [] _ => match compI (compE N gs n sc) sc gs (isTup tg) it, compTg N sc 8 tg, compSs (compS N gs sc n) b with
      | some (k, as), some t, some y => some (.for_ t k as y)
      | _, _, _ => none
    | .Assign [.Name x px] e _ => if !isLoc sc x then none else match ixOf N x, compE N gs n sc e with
      | some i, some a => if ((gs.fz.lookup N).getD []).contains x then some (.asgd i a) else some (.asg (.nm i) a)
      | _, _ => none
    | .Assign [.Tuple ts k p] e _ => match ts, e with
      | [.Name x px, .Name y py], .Tuple [a, b] ke pe =>
        if sc.names.lookup x == some .local && sc.names.lookup y == some .local && px.line == py.line && !(x == y) && !([a, b].all (foldedForSure 8)) && !([a, b].all (constantsAlone 8)) then
          match ixOf N x, ixOf N y, compE N gs n sc a, compE N gs n sc b with
          | some i, some j, some u, some v => some (.par i j u v)
          | _, _, _, _ => none
        else if sc.names.lookup x == some .cell || sc.names.lookup y == some .cell || [a, b].all (foldedForSure 8) then
          match compTg N sc 8 (.Tuple [.Name x px, .Name y py] k p), compE N gs n sc (.Tuple [a, b] ke pe) with
          | some t, some v => some (.asg t v)
          | _, _ => none
        else none
      | _, _ => if !isPlainVal e then none else match compTg N sc 8 (.Tuple ts k p), compE N gs n sc e with
        | some t, some a => some (.asg t a)
        | _, _ => none
    | .Assign [.Subscript (.Name x px) i _] e _ => if !isPlainVal e && !isTup e || isSlice i || !nameOk x || !(isLoc sc x || sc.names.lookup x == some .free) then none else match ixOf N x, compE N gs n sc i, compE N gs n sc e with
      | some o, some a, some b => some (.set o a b)
      | _, _, _ => none
    | .AugAssign (.Name x _) op e _ => if !isLoc sc x then none else match ixOf N x, compE N gs n sc e with
      | some i, some a => some (.aug i op a)
      | _, _ => none
    | .AugAssign (.Subscript (.Name x _) i _) op e _ => if isSlice i || !nameOk x || !(isLoc sc x || sc.names.lookup x == some .free) then none else match ixOf N x, compE N gs n sc i, compE N gs n sc e with
      | some o, some a, some b => some (.augs o a op b)
      | _, _, _ => none
    | _ => none
/-- a def's core: its parameters, all its slots -/
def compD (N ps : List Str) (gs : Gs) (st : Stmt) : Option Fn := (compSs (compS N gs (L2.defScope st) 60) (L2.defBody st)).map fun b => ⟨ps.length, N.length, b⟩
end Itp

namespace Itp
variable [KF]
open PySem PySem.Spec PyProof.Rows
open L2 (V Hp HO upd upd_same upd_ne ne_of ne_of_none Same Cx Inv OpR CallR MtR IxR SlR PSet TruR Room RelV EP VK SqL SqT Dp DpAll It TI TE TA TT TG TS TO PI PE PT PW PA PG PS PSs PO PTs PIE thn Turn FpOk Itl Itt Its Itr Itc Itv Ite Itz Gl Vis Loc Sp FnOk Binds Ends)
/-! ### the readings -/
def PostE (Q : VK) (σ : L2.St) (st : St) (Hs H : Hp) : R → St → Prop := fun r st' => ∀ v H' Hs', Ok σ st' Hs' H' → Fr σ st Hs H σ st' Hs' H' → RRep σ st' Hs' H' v r → Fresh σ st H v r → Q v H'
def PostT (Q : Bool → Hp → Prop) (σ : L2.St) (st : St) (Hs H : Hp) : Bool → St → Prop := fun b st' => ∀ H' Hs', Ok σ st' Hs' H' → Fr σ st Hs H σ st' Hs' H' → Q b H'
def PostA (Q : List V → Hp → Prop) (σ : L2.St) (st : St) (Hs H : Hp) : List R → St → Prop := fun rs st' => ∀ vs H' Hs', Ok σ st' Hs' H' → Fr σ st Hs H σ st' Hs' H' → RA σ st' Hs' H' rs vs → FreshA σ st H vs rs → Q vs H'
def PostO (Q : Option Int → Hp → Prop) (σ : L2.St) (st : St) (Hs H : Hp) : Option Int → St → Prop := fun o st' => ∀ H' Hs', Ok σ st' Hs' H' → Fr σ st Hs H σ st' Hs' H' → Q o H'
section
variable (C : Ct)
def TrE (e : E) : TE := fun σ H Q => ∃ st Hs, Ok σ st Hs H ∧ wpE C e st (PostE Q σ st Hs H)
def TrT (e : E) : TT := fun σ H Q => ∃ st Hs, Ok σ st Hs H ∧ wpT C e st (PostT Q σ st Hs H)
def TrA (e : E) : TA := fun σ H Q => ∃ st Hs, Ok σ st Hs H ∧ wpA C e st (PostA Q σ st Hs H)
def TrO (e : E) : TO := fun σ H Q => ∃ st Hs, Ok σ st Hs H ∧ wpO C e st (PostO Q σ st Hs H)
end
theorem PE.imp {X : Cx} {e : Expr} {t t' : TE} (h : PE X e t) (i : ∀ σ H Q, t' σ H Q → t σ H Q) : PE X e t' := ⟨fun pins s σ H Q I q => h.run pins s σ H Q I (i _ _ _ q)⟩
theorem PT.imp {X : Cx} {e : Expr} {t t' : TT} (h : PT X e t) (i : ∀ σ H Q, t' σ H Q → t σ H Q) : PT X e t' := ⟨fun pins s σ H Q I q => h.run pins s σ H Q I (i _ _ _ q)⟩
theorem PW.imp {X : Cx} {e : Expr} {t t' : TT} (h : PW X e t) (i : ∀ σ H Q, t' σ H Q → t σ H Q) : PW X e t' := ⟨fun wh pins s σ H Q I q => h.run wh pins s σ H Q I (i _ _ _ q)⟩
theorem PA.imp {X : Cx} {e : List Expr} {t t' : TA} (h : PA X e t) (i : ∀ σ H Q, t' σ H Q → t σ H Q) : PA X e t' := ⟨fun pos pins s σ H Q I q => h.run pos pins s σ H Q I (i _ _ _ q)⟩
theorem PI.imp {X : Cx} {tg e : Expr} {t t' : TI} (h : PI X tg e t) (i : ∀ σ H Q, t' σ H Q → t σ H Q) : PI X tg e t' := ⟨fun pins s σ H Q I q => h.run pins s σ H Q I (i _ _ _ q)⟩
theorem PO.imp {X : Cx} {e : Option Expr} {t t' : TO} (h : PO X e t) (i : ∀ σ H Q, t' σ H Q → t σ H Q) : PO X e t' := ⟨fun pins s σ H Q I q => h.run pins s σ H Q I (i _ _ _ q)⟩
section
variable {C : Ct} (hC : CtMono C) {σ : L2.St} {st : St} {Hs H : Hp}
include hC
theorem bindE {e : E} {F : R → St → Prop} {G : VK} (ok : Ok σ st Hs H) (w : wpE C e st F) (h : ∀ r st' v H' Hs', F r st' → Ok σ st' Hs' H' → Fr σ st Hs H σ st' Hs' H' → RRep σ st' Hs' H' v r → Fresh σ st H v r → G v H') : TrE C e σ H G :=
  ⟨st, Hs, ok, wpE_mono hC w fun r st' f v H' Hs' a b c d => h r st' v H' Hs' f a b c d⟩
theorem bindT {e : E} {F : Bool → St → Prop} {G : Bool → Hp → Prop} (ok : Ok σ st Hs H) (w : wpT C e st F) (h : ∀ b st' H' Hs', F b st' → Ok σ st' Hs' H' → Fr σ st Hs H σ st' Hs' H' → G b H') : TrT C e σ H G :=
  ⟨st, Hs, ok, wpT_mono hC w fun r st' f H' Hs' a b => h r st' H' Hs' f a b⟩
theorem bindA {e : E} {F : List R → St → Prop} {G : List V → Hp → Prop} (ok : Ok σ st Hs H) (w : wpA C e st F) (h : ∀ rs st' vs H' Hs', F rs st' → Ok σ st' Hs' H' → Fr σ st Hs H σ st' Hs' H' → RA σ st' Hs' H' rs vs → FreshA σ st H vs rs → G vs H') : TrA C e σ H G :=
  ⟨st, Hs, ok, wpA_mono hC w fun r st' f v H' Hs' a b c d => h r st' v H' Hs' f a b c d⟩
theorem bindO {e : E} {F : Option Int → St → Prop} {G : Option Int → Hp → Prop} (ok : Ok σ st Hs H) (w : wpO C e st F) (h : ∀ b st' H' Hs', F b st' → Ok σ st' Hs' H' → Fr σ st Hs H σ st' Hs' H' → G b H') : TrO C e σ H G :=
  ⟨st, Hs, ok, wpO_mono hC w fun r st' f H' Hs' a b => h r st' H' Hs' f a b⟩
end
/-! ### the context that a body is walked in -/
/-- what a call of f promises, of at most k defs within one another -/
structure CallPost (vs : List V) (os : List O) (Hs H : Hp) (res : O) (fin : List (Option O)) (v : V) (H' Hs' : Hp) : Prop where
  sub : Same Hs Hs'
  sub2 : Same Hs' H'
  keep : ∀ a o, H a = some o → ¬ Own (vs.map some) (os.map some) a → H' a = some o
  dom : ∀ a, H' a = none → H a = none
  shr : ∀ a, Hs a = none → ¬ Own (vs.map some) (os.map some) a → H a ≠ none → Hs' a = none
  len : fin.length = os.length
  back : ∀ (j : Nat) (xs : List D), os[j]? = some (.l true xs) → ∃ ys a ws, fin[j]? = some (some (.l true ys)) ∧ vs[j]? = some (.ref a) ∧ H' a = some (.lst ws) ∧ ShA Hs' ys ws ∧ Hs' a = none
  res : match res with
    | .d x => Sh Hs' x v
    | .l _ xs => ∃ a ws, v = .ref a ∧ H' a = some (.lst ws) ∧ ShA Hs' xs ws ∧ Hs' a = none ∧ (Own (vs.map some) (os.map some) a ∨ H a = none) ∧ ∀ (j : Nat) (zs : List D), os[j]? = some (.l true zs) → vs[j]? ≠ some (.ref a)
    | .k _ _ => False
def spF (C : Ct) (f : Str) (np : Nat) : Sp := fun vs H Q _ => vs.length = np ∧ ∃ os Hs, Ok (vs.map some) (os.map some) Hs H ∧ C f os fun res fin => ∀ v H' Hs', CallPost vs os Hs H res fin v H' Hs' → Q v H'
structure Gd (T : Tab) (k : Nat) (gs : Gs) (N : List Str) (sc : Scope) (X : Cx) : Prop where
  eqN : X.N = N
  nd : N.Nodup
  eqS : X.env.scope = sc
  calm : X.calm = true
  kk : X.K = KF.k
  room : Room k X.A
  gd : X.A.guards = some []
  blt : ∀ x ∈ bltNames, X.mg x = none
  cst : ∀ x d, gs.csts.lookup x = some d → ∃ u v, X.mg x = some u ∧ RelV v u ∧ ∀ Hs, Sh Hs d v
  tab : ∀ f ∈ gs.fns, ∃ fa fd ps, X.mg f = some (.ref fa) ∧ PySem.W.keepIn X.K (.ref fa) = true ∧ Binds X.K fd ps [] ∧ (∃ F, T f = some F ∧ F.np = ps.length) ∧ FnG X.prog X.w X.K X.mg X.base k fa fd ps (spF (call T k) f ps.length)
section
variable {T : Tab} {k : Nat} {gs : Gs} {N : List Str} {sc : Scope} {X : Cx}
theorem Gd.vis (g : Gd T k gs N sc X) {x : Str} (h : sc.names.lookup x = some .local ∨ sc.names.lookup x = some .cell ∨ sc.names.lookup x = some .free) : Vis X.env.scope x := by rw [g.eqS]; exact h
theorem Gd.gl (g : Gd T k gs N sc X) {x : Str} (h : isGl sc x = true) : Gl X x := by
  show List.lookup x X.env.scope.names = some .globalImplicit
  rw [g.eqS]
  unfold isGl at h
  split at h
  · assumption
  · cases h
theorem nameOk_of {x : Str} (h : nameOk x = true) : (x == ("__debug__" : Str)) = false ∧ (x == ("__classdict__" : Str)) = false ∧ x ≠ ("__name__" : Str) := by
  unfold nameOk at h
  simp only [Bool.and_eq_true, Bool.not_eq_true', beq_eq_false_iff_ne, ne_eq] at h
  exact ⟨beq_eq_false_iff_ne.mpr h.1.1, beq_eq_false_iff_ne.mpr h.1.2, h.2⟩
theorem pe_varT (g : Gd T k gs N sc X) {x : Str} {i : Nat} {pos : Pos} (hi : ixOf N x = some i) (hn : nameOk x = true) (hv : sc.names.lookup x = some .local ∨ sc.names.lookup x = some .cell ∨ sc.names.lookup x = some .free) : PE X (.Name x pos) (TrE (call T k) (.var i)) := by
  obtain ⟨n1, n2, _⟩ := nameOk_of hn
  refine PE.imp (L2.pe_var (i := i) (by rw [g.eqN]; exact ixOf_at hi) (g.vis hv) n1 n2) fun σ H Q h => ?_
  obtain ⟨st, Hs, ok, w⟩ := h
  simp only [wpE] at w
  split at w
  · rename_i y q
    obtain ⟨v, e, r⟩ := ok.rep i _ q
    exact ⟨v, e, w v H Hs ok Fr.refl r fun a ha => by simp [tmp] at ha⟩
  · rename_i o hne q
    obtain ⟨v, e, r⟩ := ok.rep i _ q
    exact ⟨v, e, w v H Hs ok Fr.refl ⟨e, _, q⟩ fun a ha => by simp [tmp] at ha⟩
  · exact w.elim
theorem pe_cstT {e : Expr} {d : D} {v : V} (h : PE X e (L2.tC v)) (hd : ∀ Hs, Sh Hs d v) : PE X e (TrE (call T k) (.cst d)) := by
  refine PE.imp h fun σ H Q h => ?_
  obtain ⟨st, Hs, ok, w⟩ := h
  simp only [wpE] at w
  exact w v H Hs ok Fr.refl (hd Hs) fun a ha => by simp [tmp] at ha
end

/-! ### arguments of a call -/
section
variable {σ σ0 : L2.St} {st st0 : St} {Hs H Hs0 H0 Hs' H' : Hp}
theorem argO_d {r : R} {x : D} (h : argO r st = some (.d x)) : r = .v (.d x) ∨ ∃ i, r = .r i ∧ st[i]? = some (some (.d x)) := by
  cases r with
  | v o => cases o <;> simp [argO] at h <;> simp [h]
  | r i =>
    simp only [argO] at h
    split at h
    · rename_i y q; cases h; exact .inr ⟨i, rfl, q⟩
    · cases h
    · cases h
    · cases h
theorem argO_l {r : R} {p : Bool} {xs : List D} (h : argO r st = some (.l p xs)) : (p = false ∧ ∃ q, r = .v (.l q xs)) ∨ (p = true ∧ ∃ i q, r = .r i ∧ st[i]? = some (some (.l q xs))) := by
  cases r with
  | v o => cases o <;> simp [argO] at h; obtain ⟨rfl, rfl⟩ := h; exact .inl ⟨rfl, _, rfl⟩
  | r i =>
    simp only [argO] at h
    split at h
    · cases h
    · rename_i q y e; cases h; exact .inr ⟨rfl, i, q, rfl, e⟩
    · cases h
    · cases h
theorem argO_k {r : R} {p : Bool} {xs : List D} (h : argO r st = some (.k p xs)) : ∃ i q, r = .r i ∧ st[i]? = some (some (.k q xs)) := by
  cases r with
  | v o => cases o <;> simp [argO] at h
  | r i =>
    simp only [argO] at h
    split at h
    · cases h
    · cases h
    · rename_i q y e; cases h; exact ⟨i, q, rfl, e⟩
    · cases h
theorem args_at : ∀ {rs : List R} {os : List O}, args rs st = some os → os.length = rs.length ∧ ∀ (j : Nat) (o : O), os[j]? = some o → ∃ r, rs[j]? = some r ∧ argO r st = some o
  | [], os, h => by
    simp only [args, Option.some.injEq] at h
    subst h
    exact ⟨rfl, fun j o e => by simp at e⟩
  | r :: rs, os, h => by
    unfold args at h
    split at h
    · rename_i o os' e1 e2
      cases h
      obtain ⟨l, f⟩ := args_at e2
      refine ⟨by simp [l], fun j o' e => ?_⟩
      cases j with
      | zero => simp at e; subst e; exact ⟨r, rfl, e1⟩
      | succ j => exact f j o' (by simpa using e)
    · cases h
theorem RA.at : ∀ {rs : List R} {vs : List V}, RA σ st Hs H rs vs → ∀ {j : Nat} {r : R}, rs[j]? = some r → ∃ v, vs[j]? = some v ∧ RRep σ st Hs H v r
  | [], _, _, j, r, e => by simp at e
  | r :: rs, _, h, j, r', e => by
    obtain ⟨v, ws, rfl, q, t, _⟩ := h
    cases j with
    | zero => simp at e; subst e; exact ⟨v, rfl, q⟩
    | succ j =>
      obtain ⟨w, a, b⟩ := RA.at t (by simpa using e)
      exact ⟨w, by simpa using a, b⟩
theorem tmps_mem : ∀ {rs : List R} {vs : List V} {j : Nat} {r : R} {v : V} {a : Addr}, rs[j]? = some r → vs[j]? = some v → a ∈ tmp r v → a ∈ tmps rs vs
  | [], _, j, r, v, a, e, _, _ => by simp at e
  | _ :: _, [], j, r, v, a, _, e, _ => by simp at e
  | r0 :: rs, v0 :: vs, 0, r, v, a, e1, e2, h => by
    simp at e1 e2; subst e1; subst e2
    exact List.mem_append_left _ h
  | r0 :: rs, v0 :: vs, j + 1, r, v, a, e1, e2, h => List.mem_append_right _ (tmps_mem (by simpa using e1) (by simpa using e2) h)
theorem tmps_uniq : ∀ {rs : List R} {vs : List V}, RA σ st Hs H rs vs → ∀ {i j : Nat} {r r' : R} {v v' : V} {a : Addr}, rs[i]? = some r → rs[j]? = some r' → vs[i]? = some v → vs[j]? = some v' → a ∈ tmp r v → a ∈ tmp r' v' → i = j
  | [], _, _, i, j, r, r', v, v', a, e, _, _, _, _, _ => by simp at e
  | r0 :: rs, _, h, i, j, r, r', v, v', a, e1, e2, e3, e4, h1, h2 => by
    obtain ⟨v0, ws, rfl, q, t, d⟩ := h
    cases i with
    | zero =>
      cases j with
      | zero => rfl
      | succ j =>
        simp at e1 e3; subst e1; subst e3
        exact absurd (tmps_mem (rs := rs) (vs := ws) (j := j) (by simpa using e2) (by simpa using e4) h2) (d a h1)
    | succ i =>
      cases j with
      | zero =>
        simp at e2 e4; subst e2; subst e4
        exact absurd (tmps_mem (rs := rs) (vs := ws) (j := i) (by simpa using e1) (by simpa using e3) h1) (d a h2)
      | succ j => rw [tmps_uniq t (i := i) (j := j) (by simpa using e1) (by simpa using e2) (by simpa using e3) (by simpa using e4) h1 h2]
theorem lent_mem : ∀ {rs : List R} {j n : Nat} {p : Bool} {xs : List D}, rs[j]? = some (.r n) → st[n]? = some (some (.l p xs)) → n ∈ lent rs st
  | [], j, n, p, xs, e, _ => by simp at e
  | r0 :: rs, 0, n, p, xs, e, q => by
    simp at e; subst e
    simp only [lent, q]
    exact List.mem_cons_self
  | r0 :: rs, j + 1, n, p, xs, e, q => by
    have := lent_mem (rs := rs) (j := j) (by simpa using e) q
    cases r0 with
    | v o => simpa [lent] using this
    | r m =>
      simp only [lent]
      split
      · exact List.mem_cons_of_mem _ this
      · exact this
theorem lent_uniq : ∀ {rs : List R}, (lent rs st).Nodup → ∀ {i j n : Nat} {p : Bool} {xs : List D}, rs[i]? = some (.r n) → rs[j]? = some (.r n) → st[n]? = some (some (.l p xs)) → i = j
  | [], _, i, j, n, p, xs, e, _, _ => by simp at e
  | r0 :: rs, nd, i, j, n, p, xs, e1, e2, q => by
    have mem : ∀ {m : Nat}, rs[m]? = some (.r n) → n ∈ lent rs st := fun e => lent_mem e q
    have tl : (lent rs st).Nodup := by
      cases r0 with
      | v o => simpa [lent] using nd
      | r n' =>
        simp only [lent] at nd
        split at nd
        · exact (List.nodup_cons.mp nd).2
        · exact nd
    have hd : ∀ {m : Nat}, r0 = .r n → rs[m]? = some (.r n) → False := by
      intro m e e'
      subst e
      simp only [lent, q] at nd
      exact (List.nodup_cons.mp nd).1 (mem e')
    cases i with
    | zero =>
      cases j with
      | zero => rfl
      | succ j => exact (hd (m := j) (by simpa using e1) (by simpa using e2)).elim
    | succ i =>
      cases j with
      | zero => exact (hd (m := i) (by simpa using e2) (by simpa using e1)).elim
      | succ j => rw [lent_uniq tl (i := i) (j := j) (by simpa using e1) (by simpa using e2) q]
theorem map_at {α β : Type} {f : α → β} {l : List α} {i : Nat} {y : β} (h : (l.map f)[i]? = some y) : ∃ x, l[i]? = some x ∧ y = f x := by
  rw [List.getElem?_map] at h
  cases e : l[i]? with
  | none => rw [e] at h; cases h
  | some x => rw [e] at h; cases h; exact ⟨x, rfl, rfl⟩
/-- at a call: the arguments stand as the callee wants them -/
theorem args_ok {rs : List R} {vs : List V} {os : List O} (k : Ok σ st Hs H) (ra : RA σ st Hs H rs vs) (e : args rs st = some os) (nd : (lent rs st).Nodup) : Ok (vs.map some) (os.map some) Hs H ∧
    ∀ a, Own (vs.map some) (os.map some) a → Own σ st a ∨ a ∈ tmps rs vs := by
  obtain ⟨l, f⟩ := args_at e
  have lv := ra.len
  -- the place of a held argument
  have pl : ∀ {j : Nat} {o : O} {a : Addr}, os[j]? = some o → held o = true → vs[j]? = some (.ref a) → (∃ p xs q, o = .l p xs ∧ rs[j]? = some (.v (.l q xs)) ∧ a ∈ tmp (.v (.l q xs)) (.ref a)) ∨
      (∃ p q xs n, o = .l p xs ∧ rs[j]? = some (.r n) ∧ st[n]? = some (some (.l q xs)) ∧ σ[n]? = some (some (.ref a))) ∨ (∃ p q xs n, o = .k p xs ∧ rs[j]? = some (.r n) ∧ st[n]? = some (some (.k q xs)) ∧ σ[n]? = some (some (.ref a))) := by
    intro j o a e1 hh e2
    obtain ⟨r, er, ar⟩ := f j o e1
    obtain ⟨v, ev, rr⟩ := ra.at er
    rw [e2] at ev; cases ev
    cases o with
    | d x => cases hh
    | l p xs =>
      rcases argO_l ar with ⟨_, q, rfl⟩ | ⟨_, n, q, rfl, z⟩
      · exact .inl ⟨p, xs, q, rfl, er, by simp [tmp]⟩
      · exact .inr (.inl ⟨p, q, xs, n, rfl, er, z, rr.1⟩)
    | k p xs =>
      obtain ⟨n, q, rfl, z⟩ := argO_k ar
      exact .inr (.inr ⟨p, q, xs, n, rfl, er, z, rr.1⟩)
  refine ⟨⟨by simp [l, lv], k.sub, fun j o q => ?_, fun i j p xs o a q1 q2 hh q3 q4 => ?_⟩, fun a ⟨j, p, xs, q1, q2⟩ => ?_⟩
  · obtain ⟨o', e1, e2⟩ := map_at q
    cases e2
    obtain ⟨r, er, ar⟩ := f j o e1
    obtain ⟨v, ev, rr⟩ := ra.at er
    refine ⟨v, by rw [List.getElem?_map, ev]; rfl, ?_⟩
    cases o with
    | d x =>
      rcases argO_d ar with rfl | ⟨i, rfl, z⟩
      · exact rr
      · obtain ⟨w, e3, rp⟩ := k.rep i _ z
        rw [rr.1] at e3; cases e3
        exact rp
    | l p xs =>
      rcases argO_l ar with ⟨_, q, rfl⟩ | ⟨_, i, q, rfl, z⟩
      · obtain ⟨a, ws, e3, h1, h2, h3, _⟩ := rr
        exact ⟨a, ws, e3, h1, h2, h3⟩
      · obtain ⟨w, e3, rp⟩ := k.rep i _ z
        rw [rr.1] at e3; cases e3
        exact rp
    | k p xs =>
      obtain ⟨i, q, rfl, z⟩ := argO_k ar
      obtain ⟨w, e3, rp⟩ := k.rep i _ z
      rw [rr.1] at e3; cases e3
      exact rp
  · obtain ⟨o1, e1, z1⟩ := map_at q1
    cases z1
    obtain ⟨o2, e2, z2⟩ := map_at q2
    cases z2
    obtain ⟨v3, e3, z3⟩ := map_at q3
    cases z3
    obtain ⟨v4, e4, z4⟩ := map_at q4
    cases z4
    rcases pl e1 rfl e3 with ⟨p1, xs1, c1, _, r1, t1⟩ | ⟨p1, c1, xs1, n1, _, r1, s1, a1⟩ | ⟨p1, c1, xs1, n1, z, _⟩
    · rcases pl e2 hh e4 with ⟨p2, xs2, c2, _, r2, t2⟩ | ⟨p2, c2, xs2, n2, _, r2, s2, a2⟩ | ⟨p2, c2, xs2, n2, _, r2, s2, a2⟩
      · exact tmps_uniq ra r1 r2 e3 e4 t1 t2
      · obtain ⟨v, ev, rr⟩ := ra.at r1
        rw [e3] at ev; cases ev
        exact absurd ⟨n2, _, s2, rfl, a2⟩ (tmp_at rr t1).2.2
      · obtain ⟨v, ev, rr⟩ := ra.at r1
        rw [e3] at ev; cases ev
        exact absurd ⟨n2, _, s2, rfl, a2⟩ (tmp_at rr t1).2.2
    · rcases pl e2 hh e4 with ⟨p2, xs2, c2, _, r2, t2⟩ | ⟨p2, c2, xs2, n2, _, r2, s2, a2⟩ | ⟨p2, c2, xs2, n2, _, r2, s2, a2⟩
      · obtain ⟨v, ev, rr⟩ := ra.at r2
        rw [e4] at ev; cases ev
        exact absurd ⟨n1, _, s1, rfl, a1⟩ (tmp_at rr t2).2.2
      · have := k.inj n1 n2 _ _ _ a s1 s2 rfl a1 a2
        subst this
        exact lent_uniq nd r1 r2 s1
      · have := k.inj n1 n2 _ _ _ a s1 s2 rfl a1 a2
        subst this
        rw [s1] at s2; cases s2
    · cases z
  · obtain ⟨o1, e1, z1⟩ := map_at q1
    cases z1
    obtain ⟨v2, e2, z2⟩ := map_at q2
    cases z2
    rcases pl e1 rfl e2 with ⟨p1, xs1, c1, _, r1, t1⟩ | ⟨p1, c1, xs1, n1, _, r1, s1, a1⟩ | ⟨p1, c1, xs1, n1, z, _⟩
    · exact .inr (tmps_mem r1 e2 t1)
    · exact .inl ⟨n1, _, _, s1, a1⟩
    · cases z
/-- the slots that a call writes back -/
theorem back_at {s0 : St} : ∀ {rs : List R} {os : List (Option O)} {s s2 : St}, back s0 rs os s = some s2 → s2.length = s.length ∧ (∀ i, i ∉ lent rs s0 → s2[i]? = s[i]?) ∧
    ((lent rs s0).Nodup → ∀ (j i : Nat) (p : Bool) (xs : List D), rs[j]? = some (.r i) → s0[i]? = some (some (.l p xs)) → i < s.length → ∃ ys, os[j]? = some (some (.l true ys)) ∧ s2[i]? = some (some (.l p ys)))
  | [], [], s, s2, h => by
    simp only [back, Option.some.injEq] at h
    subst h
    exact ⟨rfl, fun _ _ => rfl, fun _ j i p xs e => by simp at e⟩
  | [], _ :: _, s, s2, h => by simp [back] at h
  | .v o :: rs, [], s, s2, h => by simp [back] at h
  | .r n :: rs, [], s, s2, h => by simp [back] at h
  | .v o :: rs, b :: os, s, s2, h => by
    simp only [back] at h
    obtain ⟨h0, h1, h2⟩ := back_at h
    refine ⟨h0, fun i hi => h1 i (by simpa [lent] using hi), fun nd j i p xs e q l => ?_⟩
    cases j with
    | zero => simp at e
    | succ j =>
      obtain ⟨ys, a, c⟩ := h2 (by simpa [lent] using nd) j i p xs (by simpa using e) q l
      exact ⟨ys, by simpa using a, c⟩
  | .r n :: rs, b :: os, s, s2, h => by
    unfold back at h
    split at h
    · rename_i p0 xs0 q0
      split at h
      · rename_i o' ys0
        obtain ⟨h0, h1, h2⟩ := back_at h
        have le : lent (.r n :: rs) s0 = n :: lent rs s0 := by
          simp only [lent, q0]
        refine ⟨by simpa using h0, fun i hi => ?_, fun nd j i p xs e q l => ?_⟩
        · rw [le, List.mem_cons, not_or] at hi
          rw [h1 i hi.2, List.getElem?_set_ne (fun z => hi.1 z.symm)]
        · rw [le] at nd
          obtain ⟨nd1, nd2⟩ := List.nodup_cons.mp nd
          cases j with
          | zero =>
            simp at e; subst e
            rw [q0] at q; cases q
            exact ⟨ys0, rfl, by rw [h1 n nd1, List.getElem?_set_self l]⟩
          | succ j =>
            obtain ⟨ys, a, c⟩ := h2 nd2 j i p xs (by simpa using e) q (by simpa using l)
            exact ⟨ys, by simpa using a, c⟩
      · cases h
    · rename_i nl
      obtain ⟨h0, h1, h2⟩ := back_at h
      have le : lent (.r n :: rs) s0 = lent rs s0 := by
        simp only [lent]
      refine ⟨h0, fun i hi => h1 i (by rw [← le]; exact hi), fun nd j i p xs e q l => ?_⟩
      rw [le] at nd
      cases j with
      | zero =>
        simp at e; subst e
        exact absurd q (nl p xs)
      | succ j =>
        obtain ⟨ys, a, c⟩ := h2 nd j i p xs (by simpa using e) q l
        exact ⟨ys, by simpa using a, c⟩
theorem lent_of : ∀ {rs : List R} {i : Nat}, i ∈ lent rs st → ∃ (j : Nat) (p : Bool) (xs : List D), rs[j]? = some (.r i) ∧ st[i]? = some (some (.l p xs))
  | [], i, h => by simp [lent] at h
  | .v o :: rs, i, h => by
    obtain ⟨j, p, xs, a, b⟩ := lent_of (rs := rs) (by simpa [lent] using h)
    exact ⟨j + 1, p, xs, by simpa using a, b⟩
  | .r n :: rs, i, h => by
    simp only [lent] at h
    split at h
    · rename_i p xs q
      rcases List.mem_cons.mp h with e | h
      · subst e; exact ⟨0, p, xs, rfl, q⟩
      · obtain ⟨j, p, xs, a, b⟩ := lent_of h
        exact ⟨j + 1, p, xs, by simpa using a, b⟩
    · obtain ⟨j, p, xs, a, b⟩ := lent_of h
      exact ⟨j + 1, p, xs, by simpa using a, b⟩
/-- behind a call -/
theorem call_ok {rs : List R} {vs : List V} {os : List O} {res : O} {fin : List (Option O)} {v : V} {st2 : St} (k : Ok σ st Hs H) (f0 : Fr σ st0 Hs0 H0 σ st Hs H) (ra : RA σ st Hs H rs vs) (fa : ∀ a ∈ tmps rs vs, Own σ st0 a ∨ H0 a = none)
    (e : args rs st = some os) (nd : (lent rs st).Nodup) (cp : CallPost vs os Hs H res fin v H' Hs') (eb : back st rs fin st = some st2) :
    Ok σ st2 Hs' H' ∧ Fr σ st0 Hs0 H0 σ st2 Hs' H' ∧ RRep σ st2 Hs' H' v (.v res) ∧ ∀ a ∈ tmp (.v res) v, Own σ st0 a ∨ H0 a = none := by
  obtain ⟨oa, ow⟩ := args_ok k ra e nd
  obtain ⟨l, f⟩ := args_at e
  obtain ⟨b0, b1, b2⟩ := back_at eb
  have b2 := b2 nd
  -- a held slot's place is kept, or it was lent
  have old : ∀ {i : Nat} {o : O}, st2[i]? = some (some o) → held o = true → ∃ o0, st[i]? = some (some o0) ∧ held o0 = true ∧ ((∃ p xs, o0 = .l p xs) ↔ ∃ p xs, o = .l p xs) := by
    intro i o q hh
    by_cases hi : i ∈ lent rs st
    · obtain ⟨j, p, xs, a, b⟩ := lent_of hi
      obtain ⟨ys, c1, c2⟩ := b2 j i p xs a b (List.getElem?_eq_some_iff.mp b).1
      rw [q] at c2; cases c2
      exact ⟨_, b, rfl, ⟨fun _ => ⟨_, _, rfl⟩, fun _ => ⟨_, _, rfl⟩⟩⟩
    · rw [b1 i hi] at q
      exact ⟨o, q, hh, Iff.rfl⟩
  have own2 : ∀ a, Own σ st2 a → Own σ st a := fun a ⟨i, p, xs, q1, q2⟩ => by
    obtain ⟨o0, c1, _, c3⟩ := old q1 rfl
    obtain ⟨p', xs', rfl⟩ := c3.mpr ⟨p, xs, rfl⟩
    exact ⟨i, p', xs', c1, q2⟩
  have hel2 : ∀ a, Hel σ st2 a → Hel σ st a := fun a ⟨i, o, q1, hh, q2⟩ => by
    obtain ⟨o0, c1, c2, _⟩ := old q1 hh
    exact ⟨i, o0, c1, c2, q2⟩
  -- what was no argument's own
  have notown : ∀ {i : Nat} {o : O} {a : Addr}, st[i]? = some (some o) → held o = true → σ[i]? = some (some (.ref a)) → i ∉ lent rs st → ¬ Own (vs.map some) (os.map some) a := by
    intro i o a q hh qa hi z
    obtain ⟨j, p, xs, q1, q2⟩ := z
    obtain ⟨o1, e1, z1⟩ := map_at q1
    cases z1
    obtain ⟨v2, e2, z2⟩ := map_at q2
    cases z2
    obtain ⟨r, er, ar⟩ := f j _ e1
    obtain ⟨v, ev, rr⟩ := ra.at er
    rw [e2] at ev; cases ev
    rcases argO_l ar with ⟨_, q', rfl⟩ | ⟨_, n, q', rfl, z⟩
    · obtain ⟨b, ws, e3, _, _, _, nh⟩ := rr
      cases e3
      exact nh ⟨i, o, q, hh, qa⟩
    · have := k.inj n i _ _ _ a z q hh rr.1 qa
      subst this
      exact hi (lent_mem er z)
  have rep2 : ∀ (i : Nat) (o : O), st2[i]? = some (some o) → ∃ w, σ[i]? = some (some w) ∧ Rep Hs' H' w o := by
    intro i o q
    by_cases hi : i ∈ lent rs st
    · obtain ⟨j, p, xs, a, b⟩ := lent_of hi
      obtain ⟨ys, c1, c2⟩ := b2 j i p xs a b (List.getElem?_eq_some_iff.mp b).1
      rw [q] at c2; cases c2
      obtain ⟨w, d1, d2⟩ := ra.at a
      have lj : j < os.length := by rw [l]; exact (List.getElem?_eq_some_iff.mp a).1
      obtain ⟨r', er', ar'⟩ := f j os[j] (List.getElem?_eq_getElem lj)
      rw [a] at er'; cases er'
      have eo : os[j] = .l true xs := by
        have : argO (.r i) st = some (.l true xs) := by simp only [argO, b]
        rw [this] at ar'
        exact (Option.some.inj ar').symm
      obtain ⟨ys', a', ws, g1, g2, g3, g4, g5⟩ := cp.back j xs (by rw [List.getElem?_eq_getElem lj, eo])
      rw [c1] at g1; cases g1
      rw [d1] at g2; cases g2
      exact ⟨_, d2.1, a', ws, rfl, g3, g4, g5⟩
    · rw [b1 i hi] at q
      obtain ⟨w, d1, d2⟩ := k.rep i o q
      refine ⟨w, d1, ?_⟩
      cases o with
      | d x => exact Sh.mono cp.sub d2
      | l p xs =>
        obtain ⟨a, ws, rfl, g1, g2, g3⟩ := d2
        have no := notown q rfl d1 hi
        exact ⟨a, ws, rfl, cp.keep a _ g1 no, ShA.mono cp.sub g2, cp.shr a g3 no (by rw [g1]; simp)⟩
      | k p xs =>
        obtain ⟨a, ws, rfl, g1, g2, g3⟩ := d2
        have no := notown q rfl d1 hi
        exact ⟨a, ws, rfl, cp.keep a _ g1 no, ShA.mono cp.sub g2, cp.shr a g3 no (by rw [g1]; simp)⟩
  -- an argument's own list is old, or fresh
  have ow0 : ∀ a, Own (vs.map some) (os.map some) a → Own σ st0 a ∨ H0 a = none := fun a z => by
    rcases ow a z with z | z
    · exact f0.own a z
    · exact fa a z
  refine ⟨⟨by rw [b0]; exact k.len, cp.sub2, rep2, fun i j p xs o a q1 q2 hh q3 q4 => ?_⟩, ⟨f0.sub.trans cp.sub, fun a o h n => ?_, fun a h => f0.dom a (cp.dom a h), fun a z => f0.own a (own2 a z), fun a h n q => ?_, fun i p xs q => ?_, fun i xs q => ?_, fun i xs q => ?_, fun i o q => ?_, by rw [b0]; exact f0.sz⟩, ?_, ?_⟩
  · obtain ⟨o1, c1, _, c3⟩ := old q1 rfl
    obtain ⟨p', xs', rfl⟩ := c3.mpr ⟨p, xs, rfl⟩
    obtain ⟨o2, d1, d2, _⟩ := old q2 hh
    exact k.inj i j _ _ _ a c1 d1 d2 q3 q4
  · refine cp.keep a o (f0.keep a o h n) fun z => ?_
    rcases ow0 a z with z | z
    · exact n z
    · rw [z] at h; cases h
  · have q' : H a ≠ none := fun z => q (f0.dom a z)
    refine cp.shr a (f0.shr a h n q) (fun z => ?_) q'
    rcases ow0 a z with z | z
    · exact n z
    · exact q z
  · by_cases hi : i ∈ lent rs st
    · obtain ⟨j, p', xs', a, b⟩ := lent_of hi
      obtain ⟨ys, c1, c2⟩ := b2 j i p' xs' a b (List.getElem?_eq_some_iff.mp b).1
      rw [q] at c2; cases c2
    · rw [b1 i hi] at q
      exact f0.kk i p xs q
  · obtain ⟨a, b⟩ := f0.kp i xs q
    refine ⟨?_, b⟩
    have hi : i ∉ lent rs st := fun hi => by
      obtain ⟨j, p', xs', _, z⟩ := lent_of hi
      rw [a] at z; cases z
    rw [b1 i hi]; exact a
  · obtain ⟨ys, a, b⟩ := f0.lp i xs q
    by_cases hi : i ∈ lent rs st
    · obtain ⟨j, p', xs', a', b'⟩ := lent_of hi
      rw [a] at b'; cases b'
      obtain ⟨zs, c1, c2⟩ := b2 j i _ _ a' a (List.getElem?_eq_some_iff.mp a).1
      exact ⟨zs, c2, b⟩
    · exact ⟨ys, by rw [b1 i hi]; exact a, b⟩
  · obtain ⟨o', a⟩ := f0.bd i o q
    by_cases hi : i ∈ lent rs st
    · obtain ⟨j, p', xs', a', b'⟩ := lent_of hi
      obtain ⟨zs, c1, c2⟩ := b2 j i _ _ a' b' (List.getElem?_eq_some_iff.mp b').1
      exact ⟨_, c2⟩
    · exact ⟨o', by rw [b1 i hi]; exact a⟩
  · have rs' := cp.res
    cases res with
    | d x => exact rs'
    | k p xs => exact rs'
    | l p xs =>
      obtain ⟨a, ws, e1, g1, g2, g3, g4, g5⟩ := rs'
      refine ⟨a, ws, e1, g1, g2, g3, fun ⟨i, o, q1, hh, q2⟩ => ?_⟩
      obtain ⟨o0, c1, c2, _⟩ := old q1 hh
      rcases g4 with z | z
      · by_cases hi : i ∈ lent rs st
        · obtain ⟨j, p', xs', a', b'⟩ := lent_of hi
          obtain ⟨w, d1, d2⟩ := ra.at a'
          have lj : j < os.length := by rw [l]; exact (List.getElem?_eq_some_iff.mp a').1
          obtain ⟨r', er', ar'⟩ := f j os[j] (List.getElem?_eq_getElem lj)
          rw [a'] at er'; cases er'
          have eo : os[j] = .l true xs' := by
            have : argO (.r i) st = some (.l true xs') := by simp only [argO, b']
            rw [this] at ar'
            exact (Option.some.inj ar').symm
          have d3 := d2.1
          rw [q2] at d3; cases d3
          exact g5 j xs' (by rw [List.getElem?_eq_getElem lj, eo]) d1
        · exact notown c1 c2 q2 hi z
      · obtain ⟨⟨vs', h1⟩, _⟩ := k.own_at ⟨i, o0, c1, c2, q2⟩
        rw [h1] at z; cases z
  · intro a ha
    have rs' := cp.res
    cases res with
    | d x => simp [tmp] at ha
    | k p xs => exact rs'.elim
    | l p xs =>
      obtain ⟨b, ws, rfl, g1, g2, g3, g4, g5⟩ := rs'
      have : a = b := by simpa [tmp] using ha
      subst this
      rcases g4 with z | z
      · exact ow0 a z
      · exact .inr (f0.dom a z)
/-- the sources of a loop are nobody's own while it runs -/
theorem items_frz {s : Src} {ds : List D} {Q : List D → Prop} (h : items s ds Q) : ∀ d ∈ ds, d.isFrz = false := by
  unfold items at h
  split at h <;> first | exact h.elim | (intro d hd; simp only [List.mem_cons, List.not_mem_nil, or_false] at hd; first | (subst hd; rfl) | (rcases hd with rfl | rfl <;> rfl) | (rcases hd with rfl | rfl | rfl <;> rfl))
theorem viewAll_at : ∀ {rs : List R} {ds : List D} {j : Nat} {r : R}, viewAll rs st = some ds → rs[j]? = some r → ∃ d ∈ ds, view r st = some d
  | [], _, j, r, _, e => by simp at e
  | r0 :: rs, ds, j, r, h, e => by
    simp only [viewAll] at h
    cases e1 : view r0 st with
    | none => rw [e1] at h; cases h
    | some x =>
      cases e2 : viewAll rs st with
      | none => rw [e1, e2] at h; cases h
      | some xs =>
        rw [e1, e2] at h
        cases h
        cases j with
        | zero => simp at e; subst e; exact ⟨x, List.mem_cons_self, e1⟩
        | succ j =>
          obtain ⟨d, a, b⟩ := viewAll_at (j := j) e2 (by simpa using e)
          exact ⟨d, List.mem_cons_of_mem _ a, b⟩
theorem src_free {rs : List R} {vs : List V} {a : Addr} {ds : List D} (k : Ok σ st Hs H) (ra : RA σ st Hs H rs vs) (hd : viewAll rs st = some ds) (nf : ∀ d ∈ ds, d.isFrz = false) (hv : V.ref a ∈ vs) : ¬ Own σ (lock (lent rs st) st) a := by
  obtain ⟨j, ej⟩ := List.getElem?_of_mem hv
  have lj : j < rs.length := by rw [ra.len]; exact (List.getElem?_eq_some_iff.mp ej).1
  have er : rs[j]? = some rs[j] := List.getElem?_eq_getElem lj
  generalize hr : rs[j] = r at er
  obtain ⟨v, ev, rr⟩ := ra.at er
  rw [ej] at ev; cases ev
  intro z
  obtain ⟨i, p, xs, q1, q2⟩ := z
  have q0 : st[i]? = some (some (.l p xs)) ∧ i ∉ lent rs st := by
    rcases lock_cases q1 with ⟨q, n⟩ | ⟨_, p', xs', q, z⟩
    · exact ⟨q, fun hi => n hi p xs rfl⟩
    · cases z
  have hs : Hs a = none := (k.own_at ⟨i, _, q0.1, rfl, q2⟩).2
  have shd : ∀ {x : D}, x.isFrz = false → Sh Hs x (.ref a) → False := by
    intro x nf h
    cases x with
    | lst ys => obtain ⟨b, ws, e, h1, _⟩ := h; cases e; rw [hs] at h1; cases h1
    | tup ys => obtain ⟨b, ws, e, h1, _⟩ := h; cases e; rw [hs] at h1; cases h1
    | frz ys => cases nf
    | _ => cases h
  cases r with
  | v o =>
    cases o with
    | d x =>
      obtain ⟨d, m, e⟩ := viewAll_at hd er
      cases e
      exact shd (nf _ m) rr
    | k p xs => exact rr
    | l p' ys =>
      obtain ⟨b, ws, e, _, _, _, nh⟩ := rr
      cases e
      exact nh ⟨i, _, q0.1, rfl, q2⟩
  | r n =>
    obtain ⟨e1, o, q⟩ := rr
    cases o with
    | d x =>
      obtain ⟨w, e2, rp⟩ := k.rep n _ q
      rw [e1] at e2; cases e2
      obtain ⟨d, m, e⟩ := viewAll_at hd er
      simp only [view, q] at e
      cases e
      exact shd (nf _ m) rp
    | l p' ys =>
      have := k.inj i n _ _ _ a q0.1 q rfl q2 e1
      subst this
      exact q0.2 (lent_mem er q)
    | k p' ys =>
      have := k.inj i n _ _ _ a q0.1 q rfl q2 e1
      subst this
      rw [q0.1] at q; cases q
end
end Itp

namespace Itp
variable [KF]
open PySem PySem.Spec PyProof.Rows
open L2 (V Hp HO upd upd_same upd_ne ne_of ne_of_none Same Cx Inv OpR CallR MtR IxR SlR PSet TruR Room RelV EP VK SqL SqT Dp DpAll It TI TE TA TT TG TGs TS TO PI PE PT PW PA PG PGs PS PSs PO PTs PIE thn Turn FpOk Itl Itt Its Itr Itc Itv Ite Itz Gl Vis Loc Sp FnOk Binds Ends)
section
variable {σ σ0 σ1 σ2 : L2.St} {st st0 st1 st2 : St} {Hs H Hs0 H0 Hs1 H1 Hs2 H2 : Hp}
/-! ### a block's own slots forgotten, and back again -/
theorem wipe_len (L : List Nat) (s : St) : (wipe s L).length = s.length := by
  induction L with
  | nil => rfl
  | cons v L ih => unfold wipe; simpa using ih
theorem wipe_at : ∀ (L : List Nat) (s : St) (j : Nat), (wipe s L)[j]? = if j ∈ L then s[j]?.map (fun _ => none) else s[j]?
  | [], s, j => by simp [wipe]
  | v :: L, s, j => by
    unfold wipe
    rw [List.getElem?_set, wipe_at L s j]
    by_cases h : v = j
    · subst h
      rw [if_pos rfl, if_pos List.mem_cons_self]
      have hl : (wipe s L).length = s.length := wipe_len L s
      by_cases hv : v < s.length
      · rw [if_pos (by omega), List.getElem?_eq_getElem hv]; rfl
      · rw [if_neg (by omega), List.getElem?_eq_none (by omega)]; rfl
    · rw [if_neg h]
      simp [List.mem_cons, Ne.symm h]
theorem wipeV_at : ∀ (L : List Nat) (s : L2.St) (j : Nat), (L2.wipe s L)[j]? = if j ∈ L then s[j]?.map (fun _ => none) else s[j]?
  | [], s, j => by simp [L2.wipe]
  | v :: L, s, j => by
    unfold L2.wipe
    rw [List.getElem?_set, wipeV_at L s j]
    by_cases h : v = j
    · subst h
      rw [if_pos rfl, if_pos List.mem_cons_self]
      have hl : (L2.wipe s L).length = s.length := L2.wipe_length s L
      by_cases hv : v < s.length
      · rw [if_pos (by omega), List.getElem?_eq_getElem hv]; rfl
      · rw [if_neg (by omega), List.getElem?_eq_none (by omega)]; rfl
    · rw [if_neg h]
      simp [List.mem_cons, Ne.symm h]
theorem mend_len (s0 : St) (L : List Nat) (s : St) : (mend s0 s L).length = s.length := by
  induction L with
  | nil => rfl
  | cons v L ih => unfold mend; simpa using ih
theorem mend_at (s0 : St) : ∀ (L : List Nat) (s : St) (j : Nat), (mend s0 s L)[j]? = if j ∈ L then s[j]?.map (fun _ => s0[j]?.join) else s[j]?
  | [], s, j => by simp [mend]
  | v :: L, s, j => by
    unfold mend
    rw [List.getElem?_set, mend_at s0 L s j]
    by_cases h : v = j
    · subst h
      rw [if_pos rfl, if_pos List.mem_cons_self]
      have hl := mend_len s0 L s
      by_cases hv : v < s.length
      · rw [if_pos (by omega), List.getElem?_eq_getElem hv]; rfl
      · rw [if_neg (by omega), List.getElem?_eq_none (l := s) (by omega)]; rfl
    · rw [if_neg h]
      simp [List.mem_cons, Ne.symm h]
theorem wipe_some {L : List Nat} {s : St} {j : Nat} {o : O} (h : (wipe s L)[j]? = some (some o)) : s[j]? = some (some o) ∧ j ∉ L := by
  rw [wipe_at] at h
  split at h
  · cases e : s[j]? with
    | none => rw [e] at h; cases h
    | some x => rw [e] at h; cases h
  · exact ⟨h, by assumption⟩
theorem wipeV_some {L : List Nat} {s : L2.St} {j : Nat} {o : V} (h : (L2.wipe s L)[j]? = some (some o)) : s[j]? = some (some o) ∧ j ∉ L := by
  rw [wipeV_at] at h
  split at h
  · cases e : s[j]? with
    | none => rw [e] at h; cases h
    | some x => rw [e] at h; cases h
  · exact ⟨h, by assumption⟩
theorem wipeV_out {L : List Nat} {s : L2.St} {j : Nat} (h : j ∉ L) : (L2.wipe s L)[j]? = s[j]? := by rw [wipeV_at, if_neg h]
theorem wipe_out {L : List Nat} {s : St} {j : Nat} (h : j ∉ L) : (wipe s L)[j]? = s[j]? := by rw [wipe_at, if_neg h]
theorem Ok.wipe (k : Ok σ st Hs H) (L : List Nat) : Ok (L2.wipe σ L) (wipe st L) Hs H := by
  refine ⟨by rw [wipe_len, L2.wipe_length]; exact k.len, k.sub, fun i o q => ?_, fun i j p xs o a q1 q2 hh q3 q4 => ?_⟩
  · obtain ⟨q, n⟩ := wipe_some q
    obtain ⟨v, e, r⟩ := k.rep i o q
    exact ⟨v, by rw [wipeV_out n]; exact e, r⟩
  · exact k.inj i j p xs o a (wipe_some q1).1 (wipe_some q2).1 hh (wipeV_some q3).1 (wipeV_some q4).1
/-- behind a block's turn -/
theorem mend_ok {L : List Nat} {s0 : St} (k : Ok σ st Hs H) (h0 : ∀ j ∈ L, st[j]?.join = s0[j]?.join) (f : Fr (L2.wipe σ L) (wipe st L) Hs H σ2 st2 Hs2 H2) (k2 : Ok σ2 st2 Hs2 H2) (eq : ∀ j, j ∉ L → σ2[j]? = (L2.wipe σ L)[j]?) :
    Ok σ (mend s0 st2 L) Hs2 H2 ∧ Fr σ st Hs H σ (mend s0 st2 L) Hs2 H2 ∧ (∀ j ∈ L, (mend s0 st2 L)[j]?.join = s0[j]?.join) := by
  have ln : st2.length = st.length := by rw [f.sz, wipe_len]
  -- what stands in a slot behind it
  have at_ : ∀ {j : Nat} {o : O}, (mend s0 st2 L)[j]? = some (some o) → (j ∈ L ∧ st[j]? = some (some o)) ∨ (j ∉ L ∧ st2[j]? = some (some o) ∧ σ2[j]? = σ[j]?) := by
    intro j o h
    rw [mend_at] at h
    split at h
    · rename_i hj
      refine .inl ⟨hj, ?_⟩
      cases e : st2[j]? with
      | none => rw [e] at h; cases h
      | some x =>
        rw [e] at h
        simp only [Option.map_some, Option.some.injEq] at h
        have h1 := h0 j hj
        rw [h] at h1
        cases e2 : st[j]? with
        | none => rw [e2] at h1; cases h1
        | some y => rw [e2] at h1; simp only [Option.join_some] at h1; rw [h1]
    · rename_i hj
      exact .inr ⟨hj, h, (eq j hj).trans (wipeV_out hj)⟩
  have ownW : ∀ a, Own (L2.wipe σ L) (Itp.wipe st L) a → ∃ i p xs, i ∉ L ∧ st[i]? = some (some (.l p xs)) ∧ σ[i]? = some (some (.ref a)) := fun a ⟨i, p, xs, q1, q2⟩ =>
    ⟨i, p, xs, (wipe_some q1).2, (wipe_some q1).1, (wipeV_some q2).1⟩
  have ownW' : ∀ a, Own (L2.wipe σ L) (Itp.wipe st L) a → Own σ st a := fun a h => by
    obtain ⟨i, p, xs, _, q1, q2⟩ := ownW a h
    exact ⟨i, p, xs, q1, q2⟩
  have helW : ∀ a, Hel (L2.wipe σ L) (Itp.wipe st L) a → ∃ i o, i ∉ L ∧ st[i]? = some (some o) ∧ held o = true ∧ σ[i]? = some (some (.ref a)) := fun a ⟨i, o, q1, hh, q2⟩ =>
    ⟨i, o, (wipe_some q1).2, (wipe_some q1).1, hh, (wipeV_some q2).1⟩
  -- an own slot's list is nobody's within
  have free : ∀ {j : Nat} {o : O} {a : Addr}, j ∈ L → st[j]? = some (some o) → held o = true → σ[j]? = some (some (.ref a)) → ¬ Own (L2.wipe σ L) (Itp.wipe st L) a := by
    intro j o a hj q hh qa z
    obtain ⟨i, p, xs, ni, q1, q2⟩ := ownW a z
    have := k.inj i j p xs o a q1 q hh q2 qa
    subst this
    exact ni hj
  refine ⟨⟨by rw [mend_len, ln]; exact k.len, k2.sub, fun j o q => ?_, fun i j p xs o a q1 q2 hh q3 q4 => ?_⟩, ⟨f.sub, fun a o h n => f.keep a o h fun z => n (ownW' a z), f.dom, fun a z => ?_, fun a h n e => f.shr a h (fun z => n (ownW' a z)) e, fun i p xs q => ⟨?_, rfl⟩, fun i xs q => ⟨?_, rfl⟩, fun i xs q => ?_, fun i o q => ?_, by rw [mend_len, ln]⟩, fun j hj => ?_⟩
  · rcases at_ q with ⟨hj, q⟩ | ⟨hj, q, es⟩
    · obtain ⟨v, e, r⟩ := k.rep j o q
      refine ⟨v, e, ?_⟩
      cases o with
      | d x => exact Sh.mono f.sub r
      | l p xs =>
        obtain ⟨a, ws, rfl, g1, g2, g3⟩ := r
        have no := free hj q rfl e
        exact ⟨a, ws, rfl, f.keep a _ g1 no, ShA.mono f.sub g2, f.shr a g3 no (by rw [g1]; simp)⟩
      | k p xs =>
        obtain ⟨a, ws, rfl, g1, g2, g3⟩ := r
        have no := free hj q rfl e
        exact ⟨a, ws, rfl, f.keep a _ g1 no, ShA.mono f.sub g2, f.shr a g3 no (by rw [g1]; simp)⟩
    · obtain ⟨v, e, r⟩ := k2.rep j o q
      exact ⟨v, by rw [← es]; exact e, r⟩
  · rcases at_ q1 with ⟨h1, q1⟩ | ⟨h1, q1, e1⟩
    · rcases at_ q2 with ⟨h2, q2⟩ | ⟨h2, q2, e2⟩
      · exact k.inj i j p xs o a q1 q2 hh q3 q4
      · have hb : Hel σ2 st2 a := ⟨j, o, q2, hh, by rw [e2]; exact q4⟩
        rcases f.hel hb with z | z
        · obtain ⟨j', o', n', w1, w2, w3⟩ := helW a z
          have := k.inj i j' p xs o' a q1 w1 w2 q3 w3
          subst this
          exact absurd h1 n'
        · obtain ⟨⟨ws, g⟩, _⟩ := k.own_at ⟨i, _, q1, rfl, q3⟩
          rw [g] at z; cases z
    · have q3' : σ2[i]? = some (some (.ref a)) := by rw [e1]; exact q3
      rcases at_ q2 with ⟨h2, q2⟩ | ⟨h2, q2, e2⟩
      · rcases f.own a ⟨i, p, xs, q1, q3'⟩ with z | z
        · exact absurd z (free h2 q2 hh q4)
        · obtain ⟨⟨ws, g⟩, _⟩ := k.own_at ⟨j, _, q2, hh, q4⟩
          rw [g] at z; cases z
      · exact k2.inj i j p xs o a q1 q2 hh q3' (by rw [e2]; exact q4)
  · obtain ⟨i, p, xs, q1, q2⟩ := z
    rcases at_ q1 with ⟨h1, q1⟩ | ⟨h1, q1, e1⟩
    · exact .inl ⟨i, p, xs, q1, q2⟩
    · rcases f.own a ⟨i, p, xs, q1, by rw [e1]; exact q2⟩ with z | z
      · exact .inl (ownW' a z)
      · exact .inr z
  · rcases at_ q with ⟨h1, q⟩ | ⟨h1, q, e1⟩
    · exact q
    · exact (wipe_some (f.kk i p xs q).1).1
  · by_cases hi : i ∈ L
    · rw [mend_at, if_pos hi]
      have hl : i < st2.length := by rw [ln]; exact (List.getElem?_eq_some_iff.mp q).1
      rw [List.getElem?_eq_getElem hl]
      have := h0 i hi
      rw [q] at this
      simp only [Option.join_some] at this
      simp [← this]
    · rw [mend_at, if_neg hi]
      exact (f.kp i xs (by rw [wipe_out hi]; exact q)).1
  · by_cases hi : i ∈ L
    · refine ⟨xs, ?_, rfl⟩
      rw [mend_at, if_pos hi]
      have hl : i < st2.length := by rw [ln]; exact (List.getElem?_eq_some_iff.mp q).1
      rw [List.getElem?_eq_getElem hl]
      have := h0 i hi
      rw [q] at this
      simp only [Option.join_some] at this
      simp [← this]
    · obtain ⟨ys, a, _⟩ := f.lp i xs (by rw [wipe_out hi]; exact q)
      exact ⟨ys, by rw [mend_at, if_neg hi]; exact a, rfl⟩
  · by_cases hi : i ∈ L
    · refine ⟨o, ?_⟩
      rw [mend_at, if_pos hi]
      have hl : i < st2.length := by rw [ln]; exact (List.getElem?_eq_some_iff.mp q).1
      rw [List.getElem?_eq_getElem hl]
      have := h0 i hi
      rw [q] at this
      simp only [Option.join_some] at this
      simp [← this]
    · obtain ⟨o', a⟩ := f.bd i o (by rw [wipe_out hi]; exact q)
      exact ⟨o', by rw [mend_at, if_neg hi]; exact a⟩
  · rw [mend_at, if_pos hj]
    by_cases hl : j < st2.length
    · rw [List.getElem?_eq_getElem hl]; rfl
    · rw [List.getElem?_eq_none (l := st2) (by omega)]
      have h1 := h0 j hj
      rw [List.getElem?_eq_none (l := st) (by omega)] at h1
      exact h1
/-! ### targets -/
theorem put_len {i : Nat} {o : O} (h : put i o st = some st1) : st1 = st.set i (some o) := by
  unfold put at h
  split at h <;> first | (cases h; rfl) | cases h
end
def TrG (t : Tg) : TG := fun v σ H Q => ∃ st Hs x st', Ok σ st Hs H ∧ Sh Hs x v ∧ setTg t x st = some st' ∧ ∀ σ', Ok σ' st' Hs H → Fr σ st Hs H σ' st' Hs H → (∀ j, j ∉ slots t → σ'[j]? = σ[j]?) → Q σ' H
def TrGs (t : Tg) : TGs := fun vs σ H Q => ∃ st Hs xs st', Ok σ st Hs H ∧ ShA Hs xs vs ∧ setTgs t xs st = some st' ∧ ∀ σ', Ok σ' st' Hs H → Fr σ st Hs H σ' st' Hs H → (∀ j, j ∉ slots t → σ'[j]? = σ[j]?) → Q σ' H
theorem PG.imp {X : Cx} {e : Expr} {t t' : TG} (h : PG X e t) (i : ∀ v σ H Q, t' v σ H Q → t v σ H Q) : PG X e t' := ⟨fun pins s σ H v u Q I r q => h.run pins s σ H v u Q I r (i _ _ _ _ q)⟩
theorem PG.or {X : Cx} {e : Expr} {t t' : TG} (h : PG X e t) (h' : PG X e t') : PG X e (fun v σ H Q => t v σ H Q ∨ t' v σ H Q) := ⟨fun pins s σ H v u Q I r q => by
  rcases q with q | q
  · exact h.run pins s σ H v u Q I r q
  · exact h'.run pins s σ H v u Q I r q⟩
theorem PGs.imp {X : Cx} {e : List Expr} {t t' : TGs} (h : PGs X e t) (i : ∀ v σ H Q, t' v σ H Q → t v σ H Q) : PGs X e t' := ⟨fun pins s σ H v u Q I r q => h.run pins s σ H v u Q I r (i _ _ _ _ q)⟩
theorem aE_len : ∀ (es : List Expr) (env : Env), (assignEach es env).length = es.length
  | [], _ => rfl
  | e :: es, env => by
    have ih := aE_len es env
    cases e <;> (show (assignEach es env).length + 1 = es.length + 1; rw [ih])
theorem aE_cons {e : Expr} {es : List Expr} {env : Env} (h : ∀ x p, e ≠ .Starred x p) : assignEach (e :: es) env = (false, assign e env) :: assignEach es env := by
  cases e with
  | Starred x p => exact absurd rfl (h x p)
  | _ => rfl
theorem aE_map {e : Expr} {es : List Expr} {env : Env} (h : ∀ x p, e ≠ .Starred x p) : (assignEach (e :: es) env).map (·.2) = assign e env :: (assignEach es env).map (·.2) := by
  rw [aE_cons h]; rfl
section
variable {T : Tab} {k : Nat} {gs : Gs} {N : List Str} {sc : Scope} {X : Cx}
theorem loc_of {x : Str} (h : isLoc sc x = true) : sc.names.lookup x = some .local ∨ sc.names.lookup x = some .cell := by
  unfold isLoc at h
  split at h
  · exact .inl (by assumption)
  · exact .inr (by assumption)
  · cases h
theorem pg_ok {lsc : Scope} (g : Gd T k gs N sc X) (hl : ∀ x, Loc lsc x → Loc sc x ∧ (X.fn x = true ∨ sc.names.lookup x = some .local)) : ∀ (n : Nat) (e : Expr) (t : Tg), compTg N lsc n e = some t → PG X e (TrG t)
  | 0, e, t, h => by simp [compTg] at h
  | n + 1, e, t, h => by
    have all : ∀ (es : List Expr) (t : Tg), compTg.compTgs (compTg N lsc n) es = some t → PGs X es (TrGs t) ∧ ∀ env, (assignEach es env).findIdx? (·.1) = none := by
      intro es
      induction es with
      | nil =>
        intro t h
        simp only [compTg.compTgs, Option.some.injEq] at h
        subst h
        refine ⟨PGs.imp L2.pgs_nil fun vs σ H Q q => ?_, fun env => rfl⟩
        obtain ⟨st, Hs, xs, st', ok, sh, e, q⟩ := q
        cases xs with
        | nil =>
          simp only [setTgs, Option.some.injEq] at e
          subst e
          exact ⟨sh, q σ ok Fr.refl fun _ _ => rfl⟩
        | cons x xs => simp [setTgs] at e
      | cons e es ih =>
        intro t h
        have ns : ∀ x p, e ≠ .Starred x p := fun x p z => by subst z; simp [compTg.compTgs] at h
        have h' : (match compTg N lsc n e, compTg.compTgs (compTg N lsc n) es with | some a, some b => some (Tg.cons a b) | _, _ => none) = some t := by
          rw [← h]
          cases e with
          | Starred x p => exact absurd rfl (ns x p)
          | _ => rfl
        cases e1 : compTg N lsc n e with
        | none => rw [e1] at h'; cases h'
        | some a =>
          cases e2 : compTg.compTgs (compTg N lsc n) es with
          | none => rw [e1, e2] at h'; cases h'
          | some b =>
            rw [e1, e2] at h'
            cases h'
            obtain ⟨i1, i2⟩ := ih b e2
            refine ⟨PGs.imp (L2.pgs_cons (pg_ok g hl n e a e1) i1 (aE_map ns)) fun vs σ H Q q => ?_, fun env => ?_⟩
            · obtain ⟨st, Hs, xs, st', ok, sh, e, q⟩ := q
              cases xs with
              | nil => simp [setTgs] at e
              | cons x xs =>
                obtain ⟨v, ws, rfl, s1, s2⟩ := sh
                simp only [setTgs] at e
                cases e3 : setTg a x st with
                | none => rw [e3] at e; cases e
                | some st1 =>
                  rw [e3] at e
                  simp only at e
                  refine ⟨v, ws, rfl, st, Hs, x, st1, ok, s1, e3, fun σ1 ok1 f1 n1 => ?_⟩
                  refine ⟨st1, Hs, xs, st', ok1, s2, e, fun σ2 ok2 f2 n2 => ?_⟩
                  refine q σ2 ok2 (f1.trans f2) fun j hj => ?_
                  simp only [slots, List.mem_append, not_or] at hj
                  exact (n2 j hj.2).trans (n1 j hj.1)
            · rw [aE_cons ns, List.findIdx?_cons]
              simp [i2 env]
    unfold compTg at h
    split at h
    · rename_i x p
      split at h
      · rename_i hlc
        simp only [Option.map_eq_some_iff] at h
        obtain ⟨i, hi, rfl⟩ := h
        have lc := hl x (loc_of hlc)
        refine PG.imp (L2.pg_name (i := i) (by rw [g.eqN]; exact g.nd) (by rw [g.eqN]; exact ixOf_at hi) (by rw [g.eqS]; exact lc.1) (by rw [g.eqS]; exact lc.2)) fun v σ H Q q => ?_
        obtain ⟨st, Hs, y, st', ok, sh, e, q⟩ := q
        obtain ⟨k1, f1, _⟩ := put_ok (v := v) ok Fr.refl (show RRep σ st Hs H v (.v (.d y)) from sh) (fun a ha => by simp [tmp] at ha) e
        refine q _ k1 f1 fun j hj => ?_
        rw [List.getElem?_set_ne]
        intro z
        apply hj
        simp [slots, z]
      · cases h
    · rename_i es k p
      simp only [Option.map_eq_some_iff] at h
      obtain ⟨t', h', rfl⟩ := h
      obtain ⟨i1, i2⟩ := all es t' h'
      have both := PG.or (L2.pg_tup (k := k) (pos := p) (n := es.length) g.calm i1 (aE_len es _) (i2 _)) (L2.pg_unl (k := k) (pos := p) (n := es.length) g.calm i1 (aE_len es _) (i2 _))
      refine PG.imp both fun v σ H Q q => ?_
      obtain ⟨st, Hs, y, st', ok, sh, e, q⟩ := q
      have ln : ∀ xs, setTgs t' xs st = some st' → xs.length = es.length := by
        intro xs e
        clear i1 i2 q ok sh both
        have len : ∀ (es : List Expr) (t' : Tg) (xs : List D) (st st' : St), compTg.compTgs (compTg N lsc n) es = some t' → setTgs t' xs st = some st' → xs.length = es.length := by
          intro es
          induction es with
          | nil =>
            intro t' xs st st' h e
            simp only [compTg.compTgs, Option.some.injEq] at h
            subst h
            cases xs with
            | nil => rfl
            | cons x xs => simp [setTgs] at e
          | cons e0 es ih =>
            intro t' xs st st' h e
            have ns : ∀ x p, e0 ≠ .Starred x p := fun x p z => by subst z; simp [compTg.compTgs] at h
            have h' : (match compTg N lsc n e0, compTg.compTgs (compTg N lsc n) es with | some a, some b => some (Tg.cons a b) | _, _ => none) = some t' := by
              rw [← h]
              cases e0 with
              | Starred x p => exact absurd rfl (ns x p)
              | _ => rfl
            cases e1 : compTg N lsc n e0 with
            | none => rw [e1] at h'; cases h'
            | some a =>
              cases e2 : compTg.compTgs (compTg N lsc n) es with
              | none => rw [e1, e2] at h'; cases h'
              | some b =>
                rw [e1, e2] at h'
                cases h'
                cases xs with
                | nil => simp [setTgs] at e
                | cons x xs =>
                  simp only [setTgs] at e
                  cases e3 : setTg a x st with
                  | none => rw [e3] at e; cases e
                  | some st1 =>
                    rw [e3] at e
                    simp [ih b xs st1 st' e2 e]
        exact len es t' xs st st' h' e
      cases y with
      | tup xs =>
        obtain ⟨a, vs, rfl, h1, h2⟩ := sh
        simp only [setTg] at e
        exact .inl ⟨a, vs, rfl, SqT.of (ok.sub _ _ h1), by rw [← h2.len]; exact ln xs e, st, Hs, xs, st', ok, h2, e, q⟩
      | lst xs =>
        obtain ⟨a, vs, rfl, h1, h2⟩ := sh
        simp only [setTg] at e
        exact .inr ⟨a, vs, rfl, SqL.of (ok.sub _ _ h1), by rw [← h2.len]; exact ln xs e, st, Hs, xs, st', ok, h2, e, q⟩
      | _ => simp [setTg] at e
    · cases h
end
end Itp

namespace Itp
variable [KF]
open PySem PySem.Spec PyProof.Rows
open L2 (V Hp HO upd upd_same upd_ne ne_of ne_of_none Same Cx Inv OpR CallR MtR IxR SlR PSet TruR Room RelV EP VK SqL SqT Dp DpAll It TI TE TA TT TG TGs TS TO PI PE PT PW PA PG PGs PS PSs PO PTs PIE thn Turn FpOk Itl Itt Its Itr Itc Itv Ite Itz Gl Vis Loc Sp FnOk Binds Ends)
theorem starEach_of {e : Expr} (h : ∀ x p, e ≠ .Starred x p) (es : List Expr) (env : Env) : starEach (e :: es) env = (false, eval e env) :: starEach es env := by
  cases e with
  | Starred x p => exact absurd rfl (h x p)
  | _ => rfl
theorem anyStar : ∀ {es : List Expr}, (∀ e ∈ es, ∀ x p, e ≠ .Starred x p) → ∀ (pos : Pos) (env : Env), (backTo pos (starEach es env)).any (·.1) = false
  | [], _, _, _ => rfl
  | e :: es, h, pos, env => by
    rw [starEach_of (h e List.mem_cons_self)]
    have ih := anyStar (fun e' he => h e' (List.mem_cons_of_mem _ he)) pos env
    unfold backTo at ih ⊢
    simpa using ih
theorem compE_star {N : List Str} {gs : Gs} {n : Nat} {sc : Scope} {ex : Expr} {e : E} (h : compE N gs n sc ex = some e) : ∀ x p, ex ≠ .Starred x p := by
  intro x p z
  subst z
  cases n with
  | zero => simp [compE] at h
  | succ n => simp [compE] at h
theorem compE_slice {N : List Str} {gs : Gs} {n : Nat} {sc : Scope} {ex : Expr} {e : E} (h : compE N gs n sc ex = some e) : ∀ a b c p, ex ≠ .Slice a b c p := by
  intro a b c p z
  subst z
  cases n with
  | zero => simp [compE] at h
  | succ n => simp [compE] at h
theorem compE_set {N : List Str} {gs : Gs} {n : Nat} {sc : Scope} {ex : Expr} {e : E} (h : compE N gs n sc ex = some e) : ∀ a b c, ex ≠ .Set a b c := by
  intro a b c z
  subst z
  cases n with
  | zero => simp [compE] at h
  | succ n => simp [compE] at h
theorem compAll_star {N : List Str} {gs : Gs} {n : Nat} {sc : Scope} : ∀ {es : List Expr} {a : E}, compAll (compE N gs n sc) es = some a → ∀ e ∈ es, ∀ x p, e ≠ .Starred x p
  | [], _, _, e, he => by simp at he
  | e0 :: es, a, h, e, he => by
    unfold compAll at h
    split at h
    · rename_i x y h1 h2
      rcases List.mem_cons.mp he with z | z
      · subst z; exact compE_star h1
      · exact compAll_star h2 e z
    · cases h
theorem marks_of {op : CmpOp} {b : Expr} (h : ∀ x y z, b ≠ .Set x y z) : behindInMarks op b = false := by
  cases b with
  | Set x y z => exact absurd rfl (h x y z)
  | _ => rfl
theorem plainIx_of {b : Expr} (h : ∀ x y z p, b ≠ .Slice x y z p) : L2.PlainIx b := fun o i => by
  cases b with
  | Slice x y z p => exact absurd rfl (h x y z p)
  | _ => rfl
theorem foldSet_of {e : Expr} (h : ∀ x y z, e ≠ .Set x y z) (env : Env) (x : Value) : foldedSetIterable e env x = pure x := by
  cases e with
  | Set a b c => exact absurd rfl (h a b c)
  | _ => rfl
theorem RA.views {σ : L2.St} {st : St} {Hs H : Hp} (k : Ok σ st Hs H) : ∀ {rs : List R} {vs : List V} {ds : List D}, RA σ st Hs H rs vs → viewAll rs st = some ds → RVA Hs H ds vs
  | [], _, ds, h, e => by
    simp only [viewAll, Option.some.injEq] at e
    subst e
    exact h
  | r :: rs, _, ds, h, e => by
    obtain ⟨v, ws, rfl, q, t, _⟩ := h
    simp only [viewAll] at e
    cases e1 : view r st with
    | none => rw [e1] at e; cases e
    | some x =>
      cases e2 : viewAll rs st with
      | none => rw [e1, e2] at e; cases e
      | some xs =>
        rw [e1, e2] at e
        cases e
        exact ⟨v, ws, rfl, k.view q e1, RA.views k t e2⟩
theorem PostE.one {Q : VK} {σ : L2.St} {st : St} {Hs H : Hp} {r : R} {s : St} (h : PostE Q σ st Hs H r s) {v : V} {H' Hs' : Hp} (a : Ok σ s Hs' H') (b : Fr σ st Hs H σ s Hs' H') (c : RRep σ s Hs' H' v r) (d : Fresh σ st H v r) : Q v H' := h v H' Hs' a b c d
section
variable {T : Tab} {k : Nat} {gs : Gs} {N : List Str} {sc : Scope} {X : Cx}
/-- what is shown of an expression -/
structure SE (T : Tab) (k : Nat) (X : Cx) (ex : Expr) (e : E) : Prop where
  pe : PE X ex (TrE (call T k) e)
  pt : PT X ex (TrT (call T k) e)
  pw : ∀ op es p, ex = .BoolOp op es p → PW X ex (TrT (call T k) e)
theorem SE.mk' {ex : Expr} {e : E} (hE : PE X ex (TrE (call T k) e)) (he : ∀ whole, isTrue ex X.env whole = (do let v ← whole; standAt ex.pos; PySem.holding [v] (truthy v)))
    (hw : ∀ st Q, wpT (call T k) e st Q → wpE (call T k) e st fun r s1 => ∃ x, view r s1 = some x ∧ truth x fun k => Q k s1) (hb : ∀ op es p, ex ≠ .BoolOp op es p) : SE T k X ex e := by
  have hC := call_mono T k
  refine ⟨hE, PT.imp (L2.pt_truth hE he) fun σ H Q h => ?_, fun op es p z => absurd z (hb op es p)⟩
  obtain ⟨st, Hs, ok, w⟩ := h
  refine bindE hC ok (hw _ _ w) fun r st' v H' Hs' w ok' f' rr fr => ?_
  obtain ⟨x, e1, w⟩ := w
  obtain ⟨b, t1, t2⟩ := truth_R (K := X.K) ok'.sub (ok'.view rr e1) w
  exact ⟨b, t1, t2 H' Hs' ok' f'⟩
theorem se_fz {ex : Expr} {e : E} (h : SE T k X ex e) : SE T k X ex (.fz e) := by
  have hC := call_mono T k
  refine ⟨PE.imp h.pe fun σ H Q q => ?_, PT.imp h.pt fun σ H Q q => ?_, fun op es p z => PW.imp (h.pw op es p z) fun σ H Q q => ?_⟩
  · obtain ⟨st, Hs, ok, w⟩ := q
    simp only [wpE] at w
    refine bindE hC ok w fun r s1 v H1 Hs1 w ok1 f1 r1 n1 => ?_
    obtain ⟨x, s2, e1, w⟩ := w
    have viaF : ∀ y, froz r s1 = some (y, s2) → x = .v (.d y) → Q v H1 := fun y e2 e3 => by
      obtain ⟨Hs2, ok2, f2, sh, _⟩ := froz_ok (rs := []) (ws := []) ok1 f1 r1 n1 e2 rfl (fun a ha => by simp [tmps])
      subst e3
      exact w v H1 Hs2 ok2 f2 sh fun a ha => by simp [tmp] at ha
    cases r with
    | v o =>
      simp only [fzo] at e1
      cases q : froz (.v o) s1 with
      | none => rw [q] at e1; cases e1
      | some p =>
        rw [q] at e1
        simp only [Option.some.injEq, Prod.mk.injEq] at e1
        obtain ⟨rfl, rfl⟩ := e1
        exact viaF p.1 q rfl
    | r i =>
      simp only [fzo] at e1
      split at e1
      · rename_i y q
        simp only [Option.some.injEq, Prod.mk.injEq] at e1
        obtain ⟨rfl, rfl⟩ := e1
        exact viaF y (by simp only [froz, q]) rfl
      · rename_i y q
        simp only [Option.some.injEq, Prod.mk.injEq] at e1
        obtain ⟨rfl, rfl⟩ := e1
        exact viaF (.lst y) (by simp only [froz, q]) rfl
      · simp only [Option.some.injEq, Prod.mk.injEq] at e1
        obtain ⟨rfl, rfl⟩ := e1
        exact w v H1 Hs1 ok1 f1 r1 n1
      · simp only [Option.some.injEq, Prod.mk.injEq] at e1
        obtain ⟨rfl, rfl⟩ := e1
        exact w v H1 Hs1 ok1 f1 r1 n1
      · cases e1
  · obtain ⟨st, Hs, ok, w⟩ := q
    simp only [wpT] at w
  · obtain ⟨st, Hs, ok, w⟩ := q
    simp only [wpT] at w
theorem compAll_starF {f : Expr → Option E} (hs : ∀ ex e, f ex = some e → ∀ x p, ex ≠ .Starred x p) : ∀ {es : List Expr} {a : E}, compAll f es = some a → ∀ e ∈ es, ∀ x p, e ≠ .Starred x p
  | [], _, _, e, he => by simp at he
  | e0 :: es, a, h, e, he => by
    unfold compAll at h
    split at h
    · rename_i x y h1 h2
      rcases List.mem_cons.mp he with z | z
      · subst z; exact hs _ _ h1
      · exact compAll_starF hs h2 e z
    · cases h
/-- arguments -/
theorem snd_AF {f : Expr → Option E} (ih : ∀ ex e, f ex = some e → SE T k X ex e) (hs : ∀ ex e, f ex = some e → ∀ x p, ex ≠ .Starred x p) : ∀ {es : List Expr} {a : E}, compAll f es = some a → PA X es (TrA (call T k) a)
  | [], a, h => by
    simp only [compAll, Option.some.injEq] at h
    subst h
    refine PA.imp L2.pa_nil fun σ H Q h => ?_
    obtain ⟨st, Hs, ok, w⟩ := h
    simp only [wpA] at w
    exact w [] H Hs ok Fr.refl rfl fun a ha => by simp [tmps] at ha
  | e0 :: es, a, h => by
    have hC := call_mono T k
    unfold compAll at h
    split at h
    · rename_i x y h1 h2
      cases h
      refine PA.imp (L2.pa_cons (ih _ _ h1).pe (snd_AF ih hs h2) (starEach_of (hs _ _ h1) es _)) fun σ H Q h => ?_
      obtain ⟨st, Hs, ok, w⟩ := h
      simp only [wpA] at w
      refine bindE hC ok w fun r s1 v H1 Hs1 w ok1 f1 r1 n1 => ?_
      refine bindA hC ok1 w fun rs s2 vs H2 Hs2 w ok2 f2 r2 n2 => ?_
      exact w (v :: vs) H2 Hs2 ok2 (f1.trans f2) (RA.cons r1 f2 r2 n2) (FreshA.cons n1 (n2.back f1))
    · cases h
theorem snd_A {n : Nat} (ih : ∀ ex e, compE N gs n sc ex = some e → SE T k X ex e) {es : List Expr} {a : E} (h : compAll (compE N gs n sc) es = some a) : PA X es (TrA (call T k) a) := snd_AF ih (fun _ _ h => compE_star h) h
theorem argX_se {lt : List Str} {tl : Bool} {f : Expr → Option E} (ih : ∀ ex e, f ex = some e → SE T k X ex e) : ∀ ex e, argX lt tl f ex = some e → SE T k X ex e := by
  intro ex e h
  unfold argX at h
  split at h
  · split at h
    · exact ih _ _ h
    · simp only [Option.map_eq_some_iff] at h; obtain ⟨x, hx, rfl⟩ := h; exact se_fz (ih _ _ hx)
  · split at h
    · exact ih _ _ h
    · simp only [Option.map_eq_some_iff] at h; obtain ⟨x, hx, rfl⟩ := h; exact se_fz (ih _ _ hx)
theorem argX_star {lt : List Str} {tl : Bool} {f : Expr → Option E} (hs : ∀ ex e, f ex = some e → ∀ x p, ex ≠ .Starred x p) : ∀ ex e, argX lt tl f ex = some e → ∀ x p, ex ≠ .Starred x p := by
  intro ex e h
  unfold argX at h
  split at h
  · split at h
    · exact hs _ _ h
    · simp only [Option.map_eq_some_iff] at h; obtain ⟨x, hx, rfl⟩ := h; exact hs _ _ hx
  · split at h
    · exact hs _ _ h
    · simp only [Option.map_eq_some_iff] at h; obtain ⟨x, hx, rfl⟩ := h; exact hs _ _ hx
def elen : E → Nat
  | .cons _ b => elen b + 1
  | _ => 0
theorem wpA_len {C : Ct} (hC : CtMono C) : ∀ (a : E) (st : St) (Q : List R → St → Prop), wpA C a st Q → wpA C a st fun rs s => rs.length = elen a ∧ Q rs s := by
  intro a
  induction a with
  | nil => intro st Q w; simp only [wpA] at w ⊢; exact ⟨rfl, w⟩
  | cons x y _ ih =>
    intro st Q w
    simp only [wpA] at w ⊢
    exact wpE_mono hC w fun r s1 w => wpA_mono hC (ih s1 _ w) fun rs s2 ⟨l, q⟩ => ⟨by simp [elen, l], q⟩
  | _ => intro st Q w; simp only [wpA] at w
theorem compAll_len {f : Expr → Option E} : ∀ {es : List Expr} {a : E}, compAll f es = some a → elen a = es.length
  | [], a, h => by simp only [compAll, Option.some.injEq] at h; subst h; rfl
  | e :: es, a, h => by
    unfold compAll at h
    split at h
    · rename_i x y h1 h2
      cases h
      simp [elen, compAll_len h2]
    · cases h
theorem RVA.len {Hs H : Hp} : ∀ {ds : List D} {vs : List V}, RVA Hs H ds vs → ds.length = vs.length
  | [], _, h => by cases (show _ = [] from h); rfl
  | d :: ds, _, h => by
    obtain ⟨v, ws, rfl, _, t⟩ := h
    simp [RVA.len t]
theorem RVA.three {Hs H : Hp} {x y z : D} {vs : List V} (h : RVA Hs H [x, y, z] vs) : ∃ v w u, vs = [v, w, u] ∧ RV Hs H x v ∧ RV Hs H y w ∧ RV Hs H z u := by
  obtain ⟨v, ws, rfl, a, b⟩ := h
  obtain ⟨w, u, rfl, c, d⟩ := RVA.two b
  exact ⟨v, w, u, rfl, a, c, d⟩
theorem items_r1 {d : D} {Q : List D → Prop} (h : items .range [d] Q) : ∃ j, d = .int j ∧ (-(2 ^ 62) ≤ j ∧ j < 2 ^ 62) ∧ Q (rangeD 0 j.toNat) := by
  cases d with
  | int j => exact ⟨j, rfl, h⟩
  | _ => exact (show False from h).elim
theorem items_r2 {d e : D} {Q : List D → Prop} (h : items .range [d, e] Q) : ∃ i j, d = .int i ∧ e = .int j ∧ Q (rangeD i (j - i).toNat) := by
  cases d with
  | int i =>
    cases e with
    | int j => exact ⟨i, j, rfl, rfl, h⟩
    | _ => exact (show False from h).elim
  | _ => cases e <;> exact (show False from h).elim
theorem items_r3 {d e f : D} {Q : List D → Prop} (h : items .range [d, e, f] Q) : ∃ i j, d = .int i ∧ e = .int j ∧ f = .int (-1) ∧ (-(2 ^ 62) ≤ i ∧ i < 2 ^ 62 ∧ -(2 ^ 62) ≤ j ∧ j < 2 ^ 62) ∧ Q (downD i (i - j).toNat) := by
  cases d with
  | int i =>
    cases e with
    | int j =>
      cases f with
      | int c =>
        have h : c = -1 ∧ (-(2 ^ 62) ≤ i ∧ i < 2 ^ 62 ∧ -(2 ^ 62) ≤ j ∧ j < 2 ^ 62) ∧ Q (downD i (i - j).toNat) := h
        exact ⟨i, j, rfl, rfl, by rw [h.1], h.2⟩
      | _ => exact (show False from h).elim
    | _ => cases f <;> exact (show False from h).elim
  | _ => cases e <;> cases f <;> exact (show False from h).elim
theorem items_rev {d : D} {Q : List D → Prop} (h : items .rev [d] Q) : (∃ xs, d = .lst xs ∧ Q xs.reverse) ∨ ∃ xs, d = .tup xs ∧ Q xs.reverse := by
  cases d with
  | lst xs => exact .inl ⟨xs, rfl, h⟩
  | tup xs => exact .inr ⟨xs, rfl, h⟩
  | _ => exact (show False from h).elim
theorem items_enum {d : D} {Q : List D → Prop} (h : items .enum [d] Q) : (∃ xs, d = .lst xs ∧ Q (enumD 0 xs)) ∨ ∃ xs, d = .tup xs ∧ Q (enumD 0 xs) := by
  cases d with
  | lst xs => exact .inl ⟨xs, rfl, h⟩
  | tup xs => exact .inr ⟨xs, rfl, h⟩
  | _ => exact (show False from h).elim
/-- a tuple (t), else a list -/
def tlB (t : Bool) (xs : List D) : D := match t with
  | true => .tup xs
  | false => .lst xs
theorem items_zip {d e : D} {Q : List D → Prop} (h : items .zip [d, e] Q) : ∃ t1 t2 xs ys, d = tlB t1 xs ∧ e = tlB t2 ys ∧ Q (zipD xs ys) := by
  cases d with
  | lst xs =>
    cases e with
    | lst ys => exact ⟨false, false, xs, ys, rfl, rfl, h⟩
    | tup ys => exact ⟨false, true, xs, ys, rfl, rfl, h⟩
    | _ => exact (show False from h).elim
  | tup xs =>
    cases e with
    | tup ys => exact ⟨true, true, xs, ys, rfl, rfl, h⟩
    | lst ys => exact ⟨true, false, xs, ys, rfl, rfl, h⟩
    | _ => exact (show False from h).elim
  | _ => cases e <;> exact (show False from h).elim
/-- a list or a tuple that is to be read, as it stands in the heap -/
theorem rv_tl {Hs H : Hp} (sub : Same Hs H) {t : Bool} {xs : List D} {v : V} (h : RV Hs H (tlB t xs) v) : ∃ a us, v = .ref a ∧ H a = some (if t = true then .tup us else .lst us) ∧ ShA Hs xs us := by
  cases t
  · obtain ⟨a, us, e, h1, h2⟩ := h
    exact ⟨a, us, e, h1, h2⟩
  · obtain ⟨a, us, e, h1, h2⟩ := h
    exact ⟨a, us, e, sub _ _ h1, h2⟩
theorem isTup_of {tg : Expr} (h : isTup tg = true) : ∃ elts kk pos, tg = .Tuple elts kk pos := by
  cases tg <;> first | exact ⟨_, _, _, rfl⟩ | cases h
/-- an iterable's reading -/
def TrI (C : Ct) (s : Src) (as : E) : TI := fun σ H R => ∃ st Hs, Ok σ st Hs H ∧ wpA C as st fun rs st' => ∀ vs H' Hs', Ok σ st' Hs' H' → Fr σ st Hs H σ st' Hs' H' → RA σ st' Hs' H' rs vs → FreshA σ st H vs rs →
  ∃ ds, viewAll rs st' = some ds ∧ items s ds fun xs => ∀ J, Wlk Hs' J xs (Held vs H') → R J H'
theorem snd_I (g : Gd T k gs N sc X) {n : Nat} (ih : ∀ ex e, compE N gs n sc ex = some e → SE T k X ex e) {tg it : Expr} {s : Src} {as : E} (h : compI (compE N gs n sc) sc gs (isTup tg) it = some (s, as)) : PI X tg it (TrI (call T k) s as) := by
  have hC := call_mono T k
  -- as it is
  have plain : ∀ {it : Expr} {a : E}, compE N gs n sc it = some a → PI X tg it (TrI (call T k) .plain (.cons a .nil)) := by
    intro it a h
    refine PI.imp (pi_seq (ih _ _ h).pe) fun σ H R q => ?_
    obtain ⟨st, Hs, ok, w⟩ := q
    simp only [wpA] at w
    refine bindE hC ok w fun r s1 v H1 Hs1 w ok1 f1 r1 n1 => ?_
    obtain ⟨ds, e, w⟩ := w [v] H1 Hs1 ok1 f1 ⟨v, [], rfl, r1, rfl, fun a _ => by simp [tmps]⟩ (fun a ha => n1 a (by simpa [tmps] using ha))
    have rv := RA.views ok1 (show RA σ s1 Hs1 H1 [r] [v] from ⟨v, [], rfl, r1, rfl, fun a _ => by simp [tmps]⟩) e
    unfold items at w
    split at w <;> first
      | exact w.elim
      | (obtain ⟨w1, e1, a, us, rfl, h1, h2⟩ := rv.one
         cases e1
         exact .inl ⟨a, us, rfl, SqL.of h1, w _ (wlk_list h2 h1 (by simp))⟩)
      | (obtain ⟨w1, e1, a, us, rfl, h1, h2⟩ := rv.one
         cases e1
         exact .inr (.inl ⟨a, us, rfl, SqT.of (ok1.sub _ _ h1), w _ (wlk_tup h2 (ok1.sub _ _ h1) (by simp))⟩))
      | (obtain ⟨w1, e1, q⟩ := rv.one
         cases e1
         cases (show v = _ from q)
         exact .inr (.inr ⟨_, rfl, w _ wlk_str⟩))
      | (rename_i hk; cases hk)
  -- the rest, by its arguments
  have fromA : ∀ {es : List Expr} {a : E} {F : List V → Hp → Prop} {s : Src} {σ : L2.St} {H : Hp} {R : It → Hp → Prop}, compAll (compE N gs n sc) es = some a →
      (∀ vs Hs H' ds, Same Hs H' → ds.length = es.length → RVA Hs H' ds vs → (items s ds fun xs => ∀ J, Wlk Hs J xs (Held vs H') → R J H') → F vs H') → TrI (call T k) s a σ H R → TrA (call T k) a σ H F := by
    intro es a F s σ H R h1 h2 q
    obtain ⟨st, Hs, ok, w⟩ := q
    refine bindA hC ok (wpA_len hC _ _ _ w) fun rs s1 vs H1 Hs1 w ok1 f1 r1 n1 => ?_
    obtain ⟨l, w⟩ := w
    obtain ⟨ds, e, w⟩ := w vs H1 Hs1 ok1 f1 r1 n1
    have rv := RA.views ok1 r1 e
    refine h2 vs Hs1 H1 ds ok1.sub ?_ rv w
    rw [rv.len, ← r1.len, l, compAll_len h1]
  have bl : ∀ {x : Str}, x ∈ bltNames → X.mg x = none := fun h => g.blt _ h
  unfold compI at h
  split at h
  · rename_i gn p es pos
    split at h
    · simp only [Option.map_eq_some_iff] at h
      obtain ⟨a, h, e⟩ := h
      cases e
      exact plain h
    · rename_i hng
      simp only [Bool.or_eq_true, Bool.not_eq_true', not_or, Bool.not_eq_false, Bool.not_eq_true] at hng
      have hg : Gl X gn := g.gl hng.1.2
      split at h
      · rename_i e
        subst e
        split at h
        · rename_i e1
          simp only [Option.map_eq_some_iff] at h
          obtain ⟨a, h, e⟩ := h
          cases e
          have st1 := compAll_star h e1 (by simp)
          refine PI.imp (L2.pi_range1 hg (bl (by decide)) (snd_A ih h) (by rw [starEach_of st1]; rfl)) fun σ H R q => ?_
          refine fromA h (fun vs Hs H' ds sub l rv w => ?_) q
          match ds, l with
          | [d], _ =>
            obtain ⟨j, rfl, b, w⟩ := items_r1 w
            obtain ⟨v, rfl, q⟩ := rv.one
            cases (show v = _ from q)
            exact ⟨j, rfl, b.1, b.2, w _ wlk_range⟩
        · rename_i e1 e2
          simp only [Option.map_eq_some_iff] at h
          obtain ⟨a, h, e⟩ := h
          cases e
          have st1 := compAll_star h e1 (by simp)
          have st2 := compAll_star h e2 (by simp)
          refine PI.imp (pi_rangeA hg (bl (by decide)) (snd_A ih h) (by rw [starEach_of st1, starEach_of st2]; rfl) (by rw [starEach_of st2]; rfl)) fun σ H R q => ?_
          refine fromA h (fun vs Hs H' ds sub l rv w => ?_) q
          match ds, l with
          | [d, d2], _ =>
            obtain ⟨i, j, rfl, rfl, w⟩ := items_r2 w
            obtain ⟨v, u, rfl, q, q2⟩ := rv.two
            cases (show v = _ from q); cases (show u = _ from q2)
            exact ⟨i, j, rfl, w _ wlk_range⟩
        · rename_i e1 e2 e3
          simp only [Option.map_eq_some_iff] at h
          obtain ⟨a, h, e⟩ := h
          cases e
          have st1 := compAll_star h e1 (by simp)
          have st2 := compAll_star h e2 (by simp)
          have st3 := compAll_star h e3 (by simp)
          refine PI.imp (L2.pi_range3 hg (bl (by decide)) (snd_A ih h) (by rw [starEach_of st1]) (by rw [starEach_of st2, starEach_of st3]; rfl)) fun σ H R q => ?_
          refine fromA h (fun vs Hs H' ds sub l rv w => ?_) q
          match ds, l with
          | [d, d2, d3], _ =>
            obtain ⟨i, j, rfl, rfl, rfl, b, w⟩ := items_r3 w
            obtain ⟨v, u, z, rfl, q, q2, q3⟩ := rv.three
            cases (show v = _ from q); cases (show u = _ from q2); cases (show z = _ from q3)
            exact ⟨i, j, -1, _, rfl, L2.RgC.neg b.1 b.2.1 b.2.2.1 b.2.2.2, w _ wlk_down⟩
        · cases h
      · split at h
        · rename_i _ e
          subst e
          split at h
          · rename_i e1
            simp only [Option.map_eq_some_iff] at h
            obtain ⟨a, h, e⟩ := h
            cases e
            have st1 := compAll_star h e1 (by simp)
            unfold compAll at h
            split at h
            · rename_i x y h1 h2
              cases h
              simp only [compAll, Option.some.injEq] at h2
              subst h2
              refine PI.imp (RT.pi_revA hg (bl (by decide)) (ih _ _ h1).pe (starEach_of st1 _ _)) fun σ H R q => ?_
              obtain ⟨st, Hs, ok, w⟩ := q
              simp only [wpA] at w
              refine bindE hC ok w fun r s1 v H1 Hs1 w ok1 f1 r1 n1 => ?_
              obtain ⟨ds, e, w⟩ := w [v] H1 Hs1 ok1 f1 ⟨v, [], rfl, r1, rfl, fun a _ => by simp [tmps]⟩ (fun a ha => n1 a (by simpa [tmps] using ha))
              have rv := RA.views ok1 (show RA σ s1 Hs1 H1 [r] [v] from ⟨v, [], rfl, r1, rfl, fun a _ => by simp [tmps]⟩) e
              have l := rv.len
              match ds, l with
              | [d], _ =>
                rcases items_rev w with ⟨xs, rfl, w⟩ | ⟨xs, rfl, w⟩
                · obtain ⟨w1, e1, a, us, rfl, h1, h2⟩ := rv.one
                  cases e1
                  exact ⟨a, us, rfl, .inl ⟨SqL.of h1, w _ (wlk_rev h2 h1 (by simp))⟩⟩
                · obtain ⟨w1, e1, a, us, rfl, h1, h2⟩ := rv.one
                  cases e1
                  exact ⟨a, us, rfl, .inr ⟨SqT.of (ok1.sub _ _ h1), w _ (wlk_revT h2 (ok1.sub _ _ h1) (by simp))⟩⟩
            · cases h
          · cases h
        · split at h
          · rename_i _ _ e
            subst e
            split at h
            · rename_i e1 tp
              simp only [Option.map_eq_some_iff] at h
              obtain ⟨a, h, e⟩ := h
              cases e
              have st1 := compAll_star h e1 (by simp)
              obtain ⟨elts, kk, tpos, rfl⟩ := isTup_of tp
              refine PI.imp (pi_enumA hg (bl (by decide)) (snd_A ih h) (by rw [starEach_of st1]; rfl)) fun σ H R q => ?_
              refine fromA h (fun vs Hs H' ds sub l rv w => ?_) q
              match ds, l with
              | [d], _ =>
                rcases items_enum w with ⟨xs, rfl, w⟩ | ⟨xs, rfl, w⟩
                · obtain ⟨v, rfl, a, us, rfl, h1, h2⟩ := rv.one
                  exact ⟨a, us, rfl, .inl ⟨SqL.of h1, w _ (wlk_enum h2 h1 (by simp))⟩⟩
                · obtain ⟨v, rfl, a, us, rfl, h1, h2⟩ := rv.one
                  exact ⟨a, us, rfl, .inr ⟨SqT.of (sub _ _ h1), w _ (wlk_enumT h2 (sub _ _ h1) (by simp))⟩⟩
            · cases h
          · split at h
            · rename_i _ _ _ e
              subst e
              split at h
              · rename_i e1 e2 tp
                simp only [Option.map_eq_some_iff] at h
                obtain ⟨a, h, e⟩ := h
                cases e
                have st1 := compAll_star h e1 (by simp)
                have st2 := compAll_star h e2 (by simp)
                obtain ⟨elts, kk, tpos, rfl⟩ := isTup_of tp
                refine PI.imp (pi_zipM hg (bl (by decide)) (snd_A ih h) (by rw [starEach_of st1]) (by rw [starEach_of st2]; rfl)) fun σ H R q => ?_
                refine fromA h (fun vs Hs H' ds sub l rv w => ?_) q
                match ds, l with
                | [d, d2], _ =>
                  obtain ⟨t1, t2, xs, ys, rfl, rfl, wz⟩ := items_zip w
                  obtain ⟨v, v2, rfl, r1, r2⟩ := rv.two
                  obtain ⟨a, us, rfl, h1, h2⟩ := rv_tl sub r1
                  obtain ⟨b, us2, rfl, h3, h4⟩ := rv_tl sub r2
                  exact ⟨t1, t2, a, b, us, us2, rfl, SqB.of h1, SqB.of h3, wz _ (wlk_zipM h2 h4 h1 h3 (by simp) (by simp))⟩
              · cases h
            · simp only [Option.map_eq_some_iff] at h
              obtain ⟨a, h, e⟩ := h
              cases e
              exact plain h
  · simp only [Option.map_eq_some_iff] at h
    obtain ⟨a, h, e⟩ := h
    cases e
    exact plain h
end
end Itp

namespace Itp
variable [KF]
open PySem PySem.Spec PyProof.Rows
open L2 (V Hp HO upd upd_same upd_ne ne_of ne_of_none Same Cx Inv OpR CallR MtR IxR SlR PSet TruR Room RelV EP VK SqL SqT Dp DpAll It TI TE TA TT TG TGs TS TO PI PE PT PW PA PG PGs PS PSs PO PTs PIE thn Turn FpOk Itl Itt Its Itr Itc Itv Ite Itz Gl Vis Loc Sp FnOk Binds Ends)
theorem PT.ofW {X : Cx} {e : Expr} {t : TT} (h : PW X e t) : PT X e t := ⟨fun pins s σ H Q I q => h.run _ pins s σ H Q I q⟩
theorem pt_if {X : Cx} {c a b : Expr} {pos : Pos} {tc ta tb : TT} (hc : PT X c tc) (ha : PT X a ta) (hb : PT X b tb) : PT X (.IfExp c a b pos) (fun σ H Q => tc σ H fun k H1 => if k = true then ta σ H1 Q else tb σ H1 Q) := by
  refine ⟨fun pins s σ H Q I h => ?_⟩
  refine isTrue_IfExp (thn (hc.run pins s σ H _ I h) fun d s1 ⟨H1, I1, q1⟩ => ?_)
  cases d with
  | true => exact ha.run pins s1 σ H1 Q I1 q1
  | false => exact hb.run pins s1 σ H1 Q I1 q1
section
variable {C : Ct} (hC : CtMono C) {σ : L2.St} {st : St} {Hs H : Hp}
include hC
theorem bind2 {a b : E} {F : R → R → St → Prop} {G : V → V → Hp → Prop} (ok : Ok σ st Hs H) (w : wpE C a st fun ra s1 => wpE C b s1 (F ra))
    (h : ∀ ra rb s2 v u H2 Hs2, F ra rb s2 → Ok σ s2 Hs2 H2 → Fr σ st Hs H σ s2 Hs2 H2 → RRep σ s2 Hs2 H2 v ra → RRep σ s2 Hs2 H2 u rb → G v u H2) : TrE C a σ H fun v H1 => TrE C b σ H1 fun u H2 => G v u H2 :=
  bindE hC ok w fun ra s1 v H1 Hs1 w ok1 f1 r1 n1 => bindE hC ok1 w fun rb s2 u H2 Hs2 w ok2 f2 r2 n2 => h ra rb s2 v u H2 Hs2 w ok2 (f1.trans f2) (r1.lift f2) r2
end
theorem Ok.view2 {σ : L2.St} {st : St} {Hs H : Hp} (k : Ok σ st Hs H) {v : V} {r : R} {x : D} (h : RRep σ st Hs H v r) (e : Itp.view r st = some x) : RV Hs H x v := k.view h e
section
variable {T : Tab} {k : Nat} {gs : Gs} {N : List Str} {sc : Scope} {X : Cx}
theorem se_bin {a b : Expr} {pos : Pos} {op : Operator} {x y : E} (ha : SE T k X a x) (hb : SE T k X b y) : SE T k X (.BinOp a op b pos) (.bin op x y) := by
  have hC := call_mono T k
  refine SE.mk' (PE.imp (L2.pe_op binop_R ha.pe hb.pe) fun σ H Q h => ?_) (fun _ => rfl) (fun st Q w => by simpa only [wpT] using w) (fun _ _ _ => by simp)
  obtain ⟨st, Hs, ok, w⟩ := h
  simp only [wpE] at w
  refine bind2 hC ok w fun ra rb s2 v u H2 Hs2 w ok2 f2 r1 r2 => ?_
  obtain ⟨dx, dy, e1, e2, w⟩ := w
  refine ⟨Hs2, dx, dy, ok2.sub, ok2.view r1 e1, ok2.view r2 e2, binop_mono (fun z w v' H' Hs' g => ?_) w⟩
  obtain ⟨ok3, f3, r3, n3⟩ := ok2.grow g
  exact w v' H' Hs' ok3 (f2.trans f3) r3 (n3.back f2)
theorem se_neg {a : Expr} {pos : Pos} {x : E} (ha : SE T k X a x) : SE T k X (.UnaryOp .USub a pos) (.neg x) := by
  have hC := call_mono T k
  refine SE.mk' (PE.imp (L2.pe_un L2.un_neg ha.pe) fun σ H Q h => ?_) (fun _ => rfl) (fun st Q w => by simpa only [wpT] using w) (fun _ _ _ => by simp)
  obtain ⟨st, Hs, ok, w⟩ := h
  simp only [wpE] at w
  refine bindE hC ok w fun r s1 v H1 Hs1 w ok1 f1 r1 n1 => ?_
  obtain ⟨i, e1, w⟩ := w
  cases (show v = _ from ok1.view r1 e1)
  exact ⟨i, rfl, w _ H1 Hs1 ok1 f1 rfl fun a ha => by simp [tmp] at ha⟩
theorem se_not {a : Expr} {pos : Pos} {x : E} (ha : SE T k X a x) : SE T k X (.UnaryOp .Not a pos) (.not_ x) := by
  have hC := call_mono T k
  refine ⟨PE.imp (L2.pe_not ha.pe) fun σ H Q h => ?_, PT.imp (L2.pt_not ha.pt) fun σ H Q h => ?_, fun _ _ _ z => by simp at z⟩
  · obtain ⟨st, Hs, ok, w⟩ := h
    simp only [wpE] at w
    refine bindE hC ok w fun r s1 v H1 Hs1 w ok1 f1 r1 n1 => ?_
    obtain ⟨i, e1, w⟩ := w
    cases (show v = _ from ok1.view r1 e1)
    exact ⟨i, rfl, w _ H1 Hs1 ok1 f1 rfl fun a ha => by simp [tmp] at ha⟩
  · obtain ⟨st, Hs, ok, w⟩ := h
    simp only [wpT] at w
    exact bindT hC ok w fun b s1 H1 Hs1 w ok1 f1 => w H1 Hs1 ok1 f1
theorem se_cmp (g : Gd T k gs N sc X) {a b : Expr} {pos : Pos} {op : CmpOp} {x y : E} (ha : SE T k X a x) (hb : SE T k X b y) (hm : behindInMarks op b = false) : SE T k X (.Compare a [op] [b] pos) (.cmp op x y) := by
  have hC := call_mono T k
  refine ⟨PE.imp (L2.pe_cmpR (cmpop_R g.room) ha.pe hb.pe hm) fun σ H Q h => ?_, PT.imp (L2.pt_cmpR (cmpop_R g.room) ha.pe hb.pe hm) fun σ H Q h => ?_, fun _ _ _ z => by simp at z⟩
  · obtain ⟨st, Hs, ok, w⟩ := h
    simp only [wpE] at w
    refine bind2 hC ok w fun ra rb s2 v u H2 Hs2 w ok2 f2 r1 r2 => ?_
    obtain ⟨dx, dy, e1, e2, w⟩ := w
    exact ⟨Hs2, dx, dy, ok2.sub, ok2.view r1 e1, ok2.view r2 e2, cmpop_mono (fun z w => w _ H2 Hs2 ok2 f2 rfl fun a ha => by simp [tmp] at ha) w⟩
  · obtain ⟨st, Hs, ok, w⟩ := h
    simp only [wpT] at w
    refine bind2 hC ok w fun ra rb s2 v u H2 Hs2 w ok2 f2 r1 r2 => ?_
    obtain ⟨dx, dy, e1, e2, w⟩ := w
    exact ⟨Hs2, dx, dy, ok2.sub, ok2.view r1 e1, ok2.view r2 e2, cmpop_mono (fun z w => ⟨z, rfl, w H2 Hs2 ok2 f2⟩) w⟩
theorem se_chn (g : Gd T k gs N sc X) {a b c : Expr} {pos : Pos} {o1 o2 : CmpOp} {x y z : E} (ha : SE T k X a x) (hb : SE T k X b y) (hc : SE T k X c z) (hm : lastMarks [o1, o2] [b, c] = false) : SE T k X (.Compare a [o1, o2] [b, c] pos) (.chn o1 o2 x y z) := by
  have hC := call_mono T k
  refine ⟨PE.imp (L2.pe_chain (cmpop_R g.room) (cmpop_R g.room) ha.pe hb.pe hc.pe hm) fun σ H Q h => ?_, PT.imp (L2.pt_chain (cmpop_R g.room) (cmpop_R g.room) ha.pe hb.pe hc.pe hm) fun σ H Q h => ?_, fun _ _ _ z => by simp at z⟩
  · obtain ⟨st, Hs, ok, w⟩ := h
    simp only [wpE] at w
    refine bind2 hC ok w fun ra rb s2 v u H2 Hs2 w ok2 f2 r1 r2 => ?_
    obtain ⟨dx, dy, e1, e2, w⟩ := w
    refine ⟨Hs2, dx, dy, ok2.sub, ok2.view r1 e1, ok2.view r2 e2, cmpop_mono (fun z w => ⟨z, rfl, ?_⟩) w⟩
    cases z with
    | false => exact w _ H2 Hs2 ok2 f2 rfl fun a ha => by simp [tmp] at ha
    | true =>
      refine bindE hC ok2 w fun rc s3 w3 H3 Hs3 w ok3 f3 r3 n3 => ?_
      obtain ⟨dy', dw, e3, e4, w⟩ := w
      exact ⟨Hs3, dy', dw, ok3.sub, ok3.view (r2.lift f3) e3, ok3.view r3 e4, cmpop_mono (fun z w => w _ H3 Hs3 ok3 (f2.trans f3) rfl fun a ha => by simp [tmp] at ha) w⟩
  · obtain ⟨st, Hs, ok, w⟩ := h
    simp only [wpT] at w
    refine bind2 hC ok w fun ra rb s2 v u H2 Hs2 w ok2 f2 r1 r2 => ?_
    obtain ⟨dx, dy, e1, e2, w⟩ := w
    refine ⟨Hs2, dx, dy, ok2.sub, ok2.view r1 e1, ok2.view r2 e2, cmpop_mono (fun z w => ⟨z, rfl, ?_⟩) w⟩
    cases z with
    | false => exact ⟨false, rfl, w H2 Hs2 ok2 f2⟩
    | true =>
      refine bindE hC ok2 w fun rc s3 w3 H3 Hs3 w ok3 f3 r3 n3 => ?_
      obtain ⟨dy', dw, e3, e4, w⟩ := w
      exact ⟨Hs3, dy', dw, ok3.sub, ok3.view (r2.lift f3) e3, ok3.view r3 e4, cmpop_mono (fun z w => ⟨z, rfl, w H3 Hs3 ok3 (f2.trans f3)⟩) w⟩
theorem se_one {op : BoolOp} {a : Expr} {pos : Pos} {x : E} (ha : SE T k X a x) : SE T k X (.BoolOp op [a] pos) x := by
  have w : PW X (.BoolOp op [a] pos) (TrT (call T k) x) := by
    cases op with
    | And => exact L2.pw_and1 ha.pt
    | Or => exact L2.pw_or1 ha.pt
  exact ⟨L2.pe_one ha.pe, PT.ofW w, fun op' es p z => by cases z; exact w⟩
theorem se_and {a b : Expr} {rest : List Expr} {pos : Pos} {x y : E} (ha : SE T k X a x) (hb : SE T k X (.BoolOp .And (b :: rest) pos) y) : SE T k X (.BoolOp .And (a :: b :: rest) pos) (.and_ x y) := by
  have hC := call_mono T k
  have w : PW X (.BoolOp .And (a :: b :: rest) pos) (TrT (call T k) (.and_ x y)) := by
    refine PW.imp (L2.pw_and ha.pt (hb.pw _ _ _ rfl)) fun σ H Q h => ?_
    obtain ⟨st, Hs, ok, w⟩ := h
    simp only [wpT] at w
    refine bindT hC ok w fun c s1 H1 Hs1 w ok1 f1 => ?_
    cases c with
    | false => exact w H1 Hs1 ok1 f1
    | true => exact bindT hC ok1 w fun c s2 H2 Hs2 w ok2 f2 => w H2 Hs2 ok2 (f1.trans f2)
  refine ⟨PE.imp (L2.pe_and ha.pe hb.pe) fun σ H Q h => ?_, PT.ofW w, fun op' es p z => by cases z; exact w⟩
  obtain ⟨st, Hs, ok, w⟩ := h
  simp only [wpE] at w
  refine bindE hC ok w fun r s1 v H1 Hs1 w ok1 f1 r1 n1 => ?_
  obtain ⟨c, e1, w⟩ := w
  cases (show v = _ from ok1.view r1 e1)
  refine ⟨c, rfl, ?_⟩
  cases c with
  | false => exact w _ H1 Hs1 ok1 f1 rfl fun a ha => by simp [tmp] at ha
  | true => exact bindE hC ok1 w fun r s2 v H2 Hs2 w ok2 f2 r2 n2 => w v H2 Hs2 ok2 (f1.trans f2) r2 (n2.back f1)
theorem se_or {a b : Expr} {rest : List Expr} {pos : Pos} {x y : E} (ha : SE T k X a x) (hb : SE T k X (.BoolOp .Or (b :: rest) pos) y) : SE T k X (.BoolOp .Or (a :: b :: rest) pos) (.or_ x y) := by
  have hC := call_mono T k
  have w : PW X (.BoolOp .Or (a :: b :: rest) pos) (TrT (call T k) (.or_ x y)) := by
    refine PW.imp (L2.pw_or ha.pt (hb.pw _ _ _ rfl)) fun σ H Q h => ?_
    obtain ⟨st, Hs, ok, w⟩ := h
    simp only [wpT] at w
    refine bindT hC ok w fun c s1 H1 Hs1 w ok1 f1 => ?_
    cases c with
    | true => exact w H1 Hs1 ok1 f1
    | false => exact bindT hC ok1 w fun c s2 H2 Hs2 w ok2 f2 => w H2 Hs2 ok2 (f1.trans f2)
  refine ⟨PE.imp (L2.pe_or ha.pe hb.pe) fun σ H Q h => ?_, PT.ofW w, fun op' es p z => by cases z; exact w⟩
  obtain ⟨st, Hs, ok, w⟩ := h
  simp only [wpE] at w
  refine bindE hC ok w fun r s1 v H1 Hs1 w ok1 f1 r1 n1 => ?_
  obtain ⟨c, e1, w⟩ := w
  cases (show v = _ from ok1.view r1 e1)
  refine ⟨c, rfl, ?_⟩
  cases c with
  | true => exact w _ H1 Hs1 ok1 f1 rfl fun a ha => by simp [tmp] at ha
  | false => exact bindE hC ok1 w fun r s2 v H2 Hs2 w ok2 f2 r2 n2 => w v H2 Hs2 ok2 (f1.trans f2) r2 (n2.back f1)
theorem se_ite {c a b : Expr} {pos : Pos} {z x y : E} (hc : SE T k X c z) (ha : SE T k X a x) (hb : SE T k X b y) : SE T k X (.IfExp c a b pos) (.ite z x y) := by
  have hC := call_mono T k
  refine ⟨PE.imp (L2.pe_ifExp hc.pt ha.pe hb.pe) fun σ H Q h => ?_, PT.imp (pt_if hc.pt ha.pt hb.pt) fun σ H Q h => ?_, fun _ _ _ z => by simp at z⟩
  · obtain ⟨st, Hs, ok, w⟩ := h
    simp only [wpE] at w
    refine bindT hC ok w fun c s1 H1 Hs1 w ok1 f1 => ?_
    cases c with
    | true => exact bindE hC ok1 w fun r s2 v H2 Hs2 w ok2 f2 r2 n2 => w v H2 Hs2 ok2 (f1.trans f2) r2 (n2.back f1)
    | false => exact bindE hC ok1 w fun r s2 v H2 Hs2 w ok2 f2 r2 n2 => w v H2 Hs2 ok2 (f1.trans f2) r2 (n2.back f1)
  · obtain ⟨st, Hs, ok, w⟩ := h
    simp only [wpT] at w
    refine bindT hC ok w fun c s1 H1 Hs1 w ok1 f1 => ?_
    cases c with
    | true => exact bindT hC ok1 w fun c s2 H2 Hs2 w ok2 f2 => w H2 Hs2 ok2 (f1.trans f2)
    | false => exact bindT hC ok1 w fun c s2 H2 Hs2 w ok2 f2 => w H2 Hs2 ok2 (f1.trans f2)
theorem se_tup {es : List Expr} {kk : Nat} {pos : Pos} {a : E} (h : PA X es (TrA (call T k) a)) : SE T k X (.Tuple es kk pos) (.tup a) := by
  have hC := call_mono T k
  refine SE.mk' (PE.imp (L2.pe_tup h) fun σ H Q h => ?_) (fun _ => rfl) (fun st Q w => by simpa only [wpT] using w) (fun _ _ _ => by simp)
  obtain ⟨st, Hs, ok, w⟩ := h
  simp only [wpE] at w
  refine bindA hC ok w fun rs s1 vs H1 Hs1 w ok1 f1 r1 n1 => ?_
  obtain ⟨xs, s2, e, l, w⟩ := w
  obtain ⟨Hs2, ok2, f2, sh, _⟩ := frozAll_ok f1 ok1 f1 r1 n1 e
  refine ⟨by rw [← line_eq, ← sh.len]; exact l, fun p hp => ?_⟩
  obtain ⟨ok3, f3, r3, n3⟩ := ok2.grow (Grow.tup ok2.sub hp sh)
  exact w _ _ _ ok3 (f2.trans f3) r3 (n3.back f2)
theorem se_lst {es : List Expr} {pos : Pos} {a : E} (h : PA X es (TrA (call T k) a)) : SE T k X (.List es pos) (.lst a) := by
  have hC := call_mono T k
  refine SE.mk' (PE.imp (L2.pe_lst h) fun σ H Q h => ?_) (fun _ => rfl) (fun st Q w => by simpa only [wpT] using w) (fun _ _ _ => by simp)
  obtain ⟨st, Hs, ok, w⟩ := h
  simp only [wpE] at w
  refine bindA hC ok w fun rs s1 vs H1 Hs1 w ok1 f1 r1 n1 => ?_
  obtain ⟨xs, s2, e, l, w⟩ := w
  obtain ⟨Hs2, ok2, f2, sh, _⟩ := frozAll_ok f1 ok1 f1 r1 n1 e
  refine ⟨by rw [← line_eq, ← sh.len]; exact l, fun p hp => ?_⟩
  obtain ⟨ok3, f3, r3, n3⟩ := ok2.grow (Grow.lst (b := false) hp sh)
  exact w _ _ _ ok3 (f2.trans f3) r3 (n3.back f2)
theorem se_idx {a b : Expr} {pos : Pos} {x y : E} (ha : SE T k X a x) (hb : SE T k X b y) (hp : L2.PlainIx b) : SE T k X (.Subscript a b pos) (.idx x y) := by
  have hC := call_mono T k
  refine SE.mk' (PE.imp (L2.pe_ix index_R ha.pe hb.pe hp) fun σ H Q h => ?_) (fun _ => rfl) (fun st Q w => by simpa only [wpT] using w) (fun _ _ _ => by simp)
  obtain ⟨st, Hs, ok, w⟩ := h
  simp only [wpE] at w
  refine bind2 hC ok w fun ra rb s2 v u H2 Hs2 w ok2 f2 r1 r2 => ?_
  obtain ⟨dx, dy, e1, e2, w⟩ := w
  exact ⟨Hs2, dx, dy, ok2.sub, ok2.view r1 e1, ok2.view r2 e2, index_mono (fun z w v' sh => w v' H2 Hs2 ok2 f2 sh fun a ha => by simp [tmp] at ha) w⟩
/-- a part of a slice -/
theorem so_of {f : Expr → Option E} {o : Option Expr} {e : E} (ih : ∀ ex e, f ex = some e → SE T k X ex e) (h : compOpt f o = some e) : PO X o (TrO (call T k) e) := by
  have hC := call_mono T k
  cases o with
  | none =>
    simp only [compOpt, Option.some.injEq] at h
    subst h
    refine PO.imp L2.po_none fun σ H Q h => ?_
    obtain ⟨st, Hs, ok, w⟩ := h
    simp only [wpO] at w
    exact w H Hs ok Fr.refl
  | some ex =>
    have h' : f ex = some e ∧ e ≠ .nop := by
      simp only [compOpt] at h
      split at h
      · cases h
      · rename_i hn
        exact ⟨h, fun z => hn (by rw [h, z])⟩
    refine PO.imp (L2.po_some (ih _ _ h'.1).pe) fun σ H Q q => ?_
    obtain ⟨st, Hs, ok, w⟩ := q
    have nn : ∀ e st Q, wpO (call T k) e st Q → e ≠ .nop → wpE (call T k) e st fun r s1 => ∃ i, view r s1 = some (.int i) ∧ Q (some i) s1 := by
      intro e st Q w ne
      cases e <;> first | exact absurd rfl ne | (simpa only [wpO] using w)
    refine bindE hC ok (nn _ _ _ w h'.2) fun r s1 v H1 Hs1 w ok1 f1 r1 n1 => ?_
    obtain ⟨i, e1, w⟩ := w
    cases (show v = _ from ok1.view r1 e1)
    exact ⟨i, rfl, w H1 Hs1 ok1 f1⟩
end
end Itp

namespace Itp
variable [KF]
open PySem PySem.Spec PyProof.Rows
open L2 (V Hp HO upd upd_same upd_ne ne_of ne_of_none Same Cx Inv OpR CallR MtR IxR SlR PSet TruR Room RelV EP VK SqL SqT Dp DpAll It TI TE TA TT TG TGs TS TO PI PE PT PW PA PG PGs PS PSs PO PTs PIE thn Turn FpOk Itl Itt Its Itr Itc Itv Ite Itz Gl Vis Loc Sp FnOk Binds Ends)
section
variable {T : Tab} {k : Nat} {gs : Gs} {N : List Str} {sc : Scope} {X : Cx}
theorem se_slc (g : Gd T k gs N sc X) {a : Expr} {lo hi : Option Expr} {pos p2 : Pos} {x l h : E} (ha : SE T k X a x) (hl : PO X lo (TrO (call T k) l)) (hh : PO X hi (TrO (call T k) h)) : SE T k X (.Subscript a (.Slice lo hi none p2) pos) (.slc x l h) := by
  have hC := call_mono T k
  refine SE.mk' (PE.imp (L2.pe_slice (slice_R g.kk) ha.pe hl hh) fun σ H Q q => ?_) (fun _ => rfl) (fun st Q w => by simpa only [wpT] using w) (fun _ _ _ => by simp)
  obtain ⟨st, Hs, ok, w⟩ := q
  simp only [wpE] at w
  refine bindE hC ok w fun ra s1 v H1 Hs1 w ok1 f1 r1 n1 => ?_
  refine bindO hC ok1 w fun lo s2 H2 Hs2 w ok2 f2 => ?_
  refine bindO hC ok2 w fun hi s3 H3 Hs3 w ok3 f3 => ?_
  obtain ⟨dx, e1, w⟩ := w
  refine ⟨Hs3, dx, ok3.sub, ok3.view ((r1.lift f2).lift f3) e1, slice_mono (fun z w v' H' Hs' g => ?_) w⟩
  obtain ⟨ok4, f4, r4, n4⟩ := ok3.grow g
  exact w v' H' Hs' ok4 (((f1.trans f2).trans f3).trans f4) r4 (n4.back ((f1.trans f2).trans f3))
theorem se_rv {a : Expr} {kk : Nat} {p1 p2 p3 pos : Pos} {x : E} (ha : SE T k X a x) : SE T k X (.Subscript a (.Slice none none (some (.UnaryOp .USub (.Constant (.int 1) kk p1) p2)) p3) pos) (.rv x) := by
  have hC := call_mono T k
  refine SE.mk' (PE.imp (L2.pe_revL ha.pe) fun σ H Q q => ?_) (fun _ => rfl) (fun st Q w => by simpa only [wpT] using w) (fun _ _ _ => by simp)
  obtain ⟨st, Hs, ok, w⟩ := q
  simp only [wpE] at w
  refine bindE hC ok w fun ra s1 v H1 Hs1 w ok1 f1 r1 n1 => ?_
  obtain ⟨xs, e1, w⟩ := w
  obtain ⟨a, us, rfl, h1, h2⟩ := ok1.view r1 e1
  refine ⟨a, us, rfl, SqL.of h1, fun p hp => ?_⟩
  obtain ⟨ok4, f4, r4, n4⟩ := ok1.grow (Grow.lst (b := false) hp h2.rev)
  exact w _ _ _ ok4 (f1.trans f4) r4 (n4.back f1)
/-- a call of a def of the text -/
theorem se_call (g : Gd T k gs N sc X) {n : Nat} (ih : ∀ ex e, compE N gs n sc ex = some e → SE T k X ex e) {f : Str} {p pos : Pos} {es : List Expr} {a : E} (hf : f ∈ gs.fns) (hn : nameOk f = true) (hg : isGl sc f = true)
    {lt : List Str} {tl : Bool} (h : compAll (argX lt tl (compE N gs n sc)) es = some a) : SE T k X (.Call (.Name f p) es [] pos) (.call f a) := by
  have hC := call_mono T k
  obtain ⟨n1, n2, n3⟩ := nameOk_of hn
  obtain ⟨fa, fd, ps, hm, hk, hb, ⟨F, hF, hnp⟩, ok⟩ := g.tab f hf
  have pa := snd_AF (argX_se ih) (argX_star fun _ _ h => compE_star h) h
  have rd : ∀ σ H Q, TrE (call T k) (.call f a) σ H Q → TrA (call T k) a σ H fun vs H1 => spF (call T k) f ps.length vs H1 Q (fun _ _ _ => False) := by
    intro σ H Q q
    obtain ⟨st, Hs, ok, w⟩ := q
    simp only [wpE] at w
    refine bindA hC ok w fun rs s1 vs H1 Hs1 w ok1 f1 r1 nf => ?_
    obtain ⟨os, ea, nd, w⟩ := w
    obtain ⟨l1, _⟩ := args_at ea
    refine ⟨?_, os, Hs1, (args_ok ok1 r1 ea nd).1, hC _ _ _ _ (fun res fin w v H' Hs' cp => ?_) w⟩
    · rw [← r1.len, ← l1, ← hnp]
      cases k with
      | zero => exact w.elim
      | succ k =>
        obtain ⟨F', e, l, _⟩ := w
        rw [hF] at e; cases e
        exact l
    · obtain ⟨s2, eb, w⟩ := w
      obtain ⟨ok2, f2, r2, n2⟩ := call_ok ok1 f1 r1 nf ea nd cp eb
      exact w v H' Hs' ok2 f2 r2 n2
  have pe : PE X (.Call (.Name f p) es [] pos) (TrE (call T k) (.call f a)) := by
    cases es with
    | nil =>
      refine PE.imp (pe_go0 ok g.gd g.room (g.gl hg) hm hk hb (fun _ _ _ => False) n1) fun σ H Q q => ?_
      have q := rd σ H Q q
      simp only [compAll, Option.some.injEq] at h
      subst h
      obtain ⟨st, Hs, ok, w⟩ := q
      simp only [wpA] at w
      exact w [] H Hs ok Fr.refl rfl fun a ha => by simp [tmps] at ha
    | cons e es =>
      have st := compAll_starF (argX_star fun _ _ h => compE_star h) h
      refine PE.imp (pe_go ok g.gd g.room (g.gl hg) hm hk hb (fun _ _ _ => False) pa n1 (starEach_of (st e List.mem_cons_self) _ _) (anyStar (fun e' he => st e' (List.mem_cons_of_mem _ he)) _ _)) rd
  exact SE.mk' pe (fun _ => rfl) (fun st Q w => by simpa only [wpT] using w) (fun _ _ _ => by simp)
/-- built-in functions and types -/
theorem blt_of {f : Str} {b : B} (h : bltOf f = some b) : f ∈ bltNames ∧ ((∃ id, bVal b = .builtin id) ∨ ∃ t, bVal b = .type t) ∧ bootBuiltins f = some (bVal b) := by
  unfold bltOf at h
  have hd : ∀ y ∈ [(("len" : Str), B.len), ("abs", .abs), ("max", .max), ("min", .min), ("sum", .sum), ("all", .all), ("any", .any), ("int", .int), ("str", .str), ("list", .list), ("tuple", .tuple), ("repr", .repr)], bootBuiltins y.1 = some (bVal y.2) := by
    decide +kernel
  repeat' split at h
  all_goals first
    | (cases h; subst_vars; exact ⟨by decide, by first | exact .inl ⟨_, rfl⟩ | exact .inr ⟨_, rfl⟩, hd (_, _) (by repeat (first | exact List.mem_cons_self | apply List.mem_cons_of_mem))⟩)
    | cases h
theorem blt_lrg {f : Str} {b : B} (h : bltOf f = some b) : b ≠ .lrg := by
  rintro rfl
  unfold bltOf at h
  repeat' split at h
  all_goals cases h
theorem se_blt (g : Gd T k gs N sc X) {n : Nat} (ih : ∀ ex e, compE N gs n sc ex = some e → SE T k X ex e) {f : Str} {p pos : Pos} {e0 : Expr} {es : List Expr} {b : B} {a : E} (hb : bltOf f = some b) (hn : nameOk f = true) (hg : isGl sc f = true)
    (h : compAll (compE N gs n sc) (e0 :: es) = some a) : SE T k X (.Call (.Name f p) (e0 :: es) [] pos) (.blt b a) := by
  have hC := call_mono T k
  obtain ⟨n1, n2, n3⟩ := nameOk_of hn
  obtain ⟨b1, b2, b3⟩ := blt_of hb
  have pa := snd_A ih h
  have st := compAll_star h
  have s1 := starEach_of (st e0 List.mem_cons_self) es X.env
  have s2 := anyStar (fun e' he => st e' (List.mem_cons_of_mem _ he)) pos X.env
  have pe : PE X (.Call (.Name f p) (e0 :: es) [] pos) (L2.tCB (rBlt b) (TrA (call T k) a)) := by
    have cr := bltin_R (X := X) (b := b) (blt_lrg hb) g.calm g.gd g.room
    rcases b2 with ⟨id, e⟩ | ⟨t, e⟩
    · rw [e] at cr b3
      exact L2.pe_callB cr (g.gl hg) (g.blt f b1) b3 pa n3 n1 s1 s2
    · rw [e] at cr b3
      exact L2.pe_callTy cr (g.gl hg) (g.blt f b1) b3 pa n3 n1 s1 s2
  refine SE.mk' (PE.imp pe fun σ H Q q => ?_) (fun _ => rfl) (fun st Q w => by simpa only [wpT] using w) (fun _ _ _ => by simp)
  obtain ⟨st, Hs, ok, w⟩ := q
  simp only [wpE] at w
  refine bindA hC ok w fun rs s1 vs H1 Hs1 w ok1 f1 r1 nf => ?_
  obtain ⟨xs, e, w⟩ := w
  refine ⟨Hs1, xs, ok1.sub, RA.views ok1 r1 e, bltin_mono (fun z w v' H' Hs' g => ?_) w⟩
  obtain ⟨ok2, f2, r2, n2⟩ := ok1.grow g
  exact w v' H' Hs' ok2 (f1.trans f2) r2 (n2.back f1)
/-! ### list(range(..)) -/
def tRgA1 (ta : L2.TA) : L2.St → Hp → (Int → Int → Hp → Prop) → Prop := fun σ H Q => ta σ H fun vs H1 => ∃ j : Int, vs = [.int j] ∧ Q 0 j H1
def tRgA2 (ta : L2.TA) : L2.St → Hp → (Int → Int → Hp → Prop) → Prop := fun σ H Q => ta σ H fun vs H1 => ∃ i j : Int, vs = [.int i, .int j] ∧ Q i j H1
theorem prgA1 {a : Expr} {ta : L2.TA} {p pos : Pos} (hg : Gl X "range") (hm : X.mg "range" = none) (ha : PA X [a] ta) (hs : starEach [a] X.env = [(false, eval a X.env)]) :
    L2.PRg X (.Call (.Name "range" p) [a] [] pos) (tRgA1 ta) := by
  intro pins s σ H Q I h
  refine Call_ (L2.ld_blt I hg hm boot_range (PyProof.Rows.callWith_type1 (L2.thn (ha.run pos pins s σ H _ I h) fun us s1 ⟨vs, H1, I1, r1, q1⟩ => ?_) (by rw [hs]; rfl) (by rfl)))
  obtain ⟨j, e, q⟩ := q1
  subst e
  cases r1 with
  | cons r rr =>
    cases rr
    obtain ⟨t, rfl⟩ := r
    exact call_range_1 ⟨_, 0, j, _, _, _, H1, rfl, IsRange.new _ _ _ _ _ _ _, I1.kept fun b u e => Heap.get?_push_of_some _ e, q⟩
theorem prgA2 {a b : Expr} {ta : L2.TA} {p pos : Pos} (hg : Gl X "range") (hm : X.mg "range" = none) (ha : PA X [a, b] ta) (hs : starEach [a, b] X.env = [(false, eval a X.env), (false, eval b X.env)]) (hs2 : starEach [b] X.env = [(false, eval b X.env)]) :
    L2.PRg X (.Call (.Name "range" p) [a, b] [] pos) (tRgA2 ta) := by
  intro pins s σ H Q I h
  refine Call_ (L2.ld_blt I hg hm boot_range (PyProof.Rows.callWith_type1 (L2.thn (ha.run pos pins s σ H _ I h) fun us s1 ⟨vs, H1, I1, r1, q1⟩ => ?_) (by rw [hs, hs2]) (by rw [hs2]; rfl)))
  obtain ⟨i, j, e, q⟩ := q1
  subst e
  cases r1 with
  | cons r rr =>
    cases rr with
    | cons r' rr =>
      cases rr
      obtain ⟨t, rfl⟩ := r
      obtain ⟨t', rfl⟩ := r'
      exact call_range_2 ⟨_, i, j, _, _, _, H1, rfl, IsRange.new _ _ _ _ _ _ _, I1.kept fun b u e => Heap.get?_push_of_some _ e, q⟩
theorem rg_sh (Hs : Hp) (lo : Int) : ∀ l : List Nat, ShA Hs (l.map fun k => D.int (lo + (k : Nat))) (l.map fun k => V.int (lo + (k : Nat)))
  | [] => rfl
  | k :: l => ⟨_, _, rfl, rfl, rg_sh Hs lo l⟩
theorem lrg_of {xs : List D} {Q : O → Prop} (w : bltin .lrg xs Q) : ∃ i j : Int, ((xs = [.int j] ∧ i = 0) ∨ xs = [.int i, .int j]) ∧ RgD i j ∧ Q (.l false (rangeD i (j - i).toNat)) := by
  unfold bltin at w
  split at w
  all_goals first
    | (rename_i h _; cases h; done)
    | (rename_i h; cases h; done)
    | exact w.elim
    | exact ⟨_, _, .inl ⟨rfl, rfl⟩, w⟩
    | exact ⟨_, _, .inr rfl, w⟩
theorem view_len : ∀ {rs : List R} {s : St} {xs : List D}, viewAll rs s = some xs → xs.length = rs.length
  | [], _, _, h => by
    simp only [viewAll, Option.some.injEq] at h
    subst h; rfl
  | r :: rs, s, xs, h => by
    simp only [viewAll] at h
    split at h
    · rename_i x ys h1 h2
      simp only [Option.some.injEq] at h
      subst h
      rw [List.length_cons, List.length_cons, view_len h2]
    · cases h
theorem wpA_cnt {C : Ct} (hC : CtMono C) {f : Expr → Option E} : ∀ {rs : List Expr} {a : E} {s : St} {Q : List R → St → Prop}, compAll f rs = some a → wpA C a s Q → wpA C a s fun us s1 => us.length = rs.length ∧ Q us s1
  | [], a, s, Q, h, w => by
    simp only [compAll, Option.some.injEq] at h
    subst h
    simp only [wpA] at w ⊢
    exact ⟨rfl, w⟩
  | e :: rs, a, s, Q, h, w => by
    simp only [compAll] at h
    split at h
    · rename_i x y h1 h2
      simp only [Option.some.injEq] at h
      subst h
      simp only [wpA] at w ⊢
      exact wpE_mono hC w fun r s1 w => wpA_mono hC (wpA_cnt hC h2 w) fun us s2 w => ⟨by rw [List.length_cons, List.length_cons, w.1], w.2⟩
    · cases h
theorem se_lrg (g : Gd T k gs N sc X) {n : Nat} (ih : ∀ ex e, compE N gs n sc ex = some e → SE T k X ex e) {f : Str} {p pos : Pos} {es rs : List Expr} {a : E} (hg : isGl sc f = true)
    (hr : lstRg sc gs.fns f es = some rs) (h : compAll (compE N gs n sc) rs = some a) : SE T k X (.Call (.Name f p) es [] pos) (.blt .lrg a) := by
  have hC := call_mono T k
  unfold lstRg at hr
  split at hr
  · rename_i r rp rs' rpos
    split at hr
    · rename_i hc
      obtain ⟨rfl, rfl, hgr, _, hlen⟩ := hc
      cases hr
      have pa := snd_A ih h
      have st := compAll_star h
      have bl : ∀ {x : Str}, x ∈ bltNames → X.mg x = none := fun h => g.blt _ h
      match rs, hlen, pa, st, h with
      | [e], _, pa, st, h =>
        have s1 := starEach_of (st e List.mem_cons_self) [] X.env
        have pr := prgA1 (p := rp) (pos := rpos) (g.gl hgr) (bl (by decide)) pa s1
        refine SE.mk' (PE.imp (L2.pe_listRg g.calm (g.gl hg) (bl (by decide)) pr rfl) fun σ H Q q => ?_) (fun _ => rfl) (fun st Q w => by simpa only [wpT] using w) (fun _ _ _ => by simp)
        obtain ⟨st, Hs, ok, w⟩ := q
        simp only [wpE] at w
        refine bindA hC ok (wpA_cnt hC h w) fun us s1 vs H1 Hs1 w ok1 f1 r1 nf => ?_
        obtain ⟨ul, xs, e, w⟩ := w
        have xl := view_len e
        have hx := RA.views ok1 r1 e
        obtain ⟨i, j, hc, rg, w2⟩ := lrg_of w
        clear w
        rcases hc with ⟨rfl, rfl⟩ | rfl
        · obtain ⟨v, rfl, q⟩ := hx.one
          cases (show v = _ from q)
          refine ⟨j, rfl, rg, fun p hp => ?_⟩
          obtain ⟨ok3, f3, r3, n3⟩ := ok1.grow (Grow.lst (b := false) hp (rg_sh Hs1 0 (List.range (j - 0).toNat)))
          exact w2 _ _ _ ok3 (f1.trans f3) r3 (n3.back f1)
        · rw [ul] at xl; cases xl
      | [e, e'], _, pa, st, h =>
        have s1 := starEach_of (st e List.mem_cons_self) [e'] X.env
        have s2 := starEach_of (st e' (List.mem_cons_of_mem _ List.mem_cons_self)) [] X.env
        have pr := prgA2 (p := rp) (pos := rpos) (g.gl hgr) (bl (by decide)) pa (by rw [s1, s2]; rfl) s2
        refine SE.mk' (PE.imp (L2.pe_listRg g.calm (g.gl hg) (bl (by decide)) pr rfl) fun σ H Q q => ?_) (fun _ => rfl) (fun st Q w => by simpa only [wpT] using w) (fun _ _ _ => by simp)
        obtain ⟨st, Hs, ok, w⟩ := q
        simp only [wpE] at w
        refine bindA hC ok (wpA_cnt hC h w) fun us s1 vs H1 Hs1 w ok1 f1 r1 nf => ?_
        obtain ⟨ul, xs, e, w⟩ := w
        have xl := view_len e
        have hx := RA.views ok1 r1 e
        obtain ⟨i, j, hc, rg, w2⟩ := lrg_of w
        clear w
        rcases hc with ⟨rfl, rfl⟩ | rfl
        · rw [ul] at xl; cases xl
        · obtain ⟨v, u, rfl, q, q2⟩ := hx.two
          cases (show v = _ from q)
          cases (show u = _ from q2)
          refine ⟨i, j, rfl, rg, fun p hp => ?_⟩
          obtain ⟨ok3, f3, r3, n3⟩ := ok1.grow (Grow.lst (b := false) hp (rg_sh Hs1 i (List.range (j - i).toNat)))
          exact w2 _ _ _ ok3 (f1.trans f3) r3 (n3.back f1)
      | [], hl, _, _, _ => simp at hl
      | _ :: _ :: _ :: _, hl, _, _, _ => simp at hl
    · cases hr
  · cases hr
theorem bb_sorted : bootBuiltins "sorted" = some (.builtin "sorted") := by decide +kernel
theorem bb_isi : bootBuiltins "isinstance" = some (.builtin "isinstance") := by decide +kernel
theorem se_srt (g : Gd T k gs N sc X) {p pos : Pos} {e0 : Expr} {x : E} (he : SE T k X e0 x) (hns : ∀ a b, e0 ≠ .Starred a b) (hg : isGl sc "sorted" = true) : SE T k X (.Call (.Name "sorted" p) [e0] [] pos) (.srt x) := by
  have hC := call_mono T k
  have pa : PA X [e0] (TrA (call T k) (.cons x .nil)) := by
    refine PA.imp (L2.pa_cons he.pe L2.pa_nil (starEach_of hns _ _)) fun σ H Q q => ?_
    obtain ⟨st, Hs, ok, w⟩ := q
    simp only [wpA] at w
    refine bindE hC ok w fun r s1 v H1 Hs1 w ok1 f1 r1 n1 => ?_
    exact w [v] H1 Hs1 ok1 f1 ⟨v, [], rfl, r1, rfl, fun a _ => by simp [tmps]⟩ (fun a ha => n1 a (by simpa [tmps] using ha))
  refine SE.mk' (PE.imp (L2.pe_callB (srt_R g.room) (g.gl hg) (g.blt _ (by decide)) bb_sorted pa (by decide) (by decide) (starEach_of hns _ _) rfl) fun σ H Q q => ?_) (fun _ => rfl) (fun st Q w => by simpa only [wpT] using w) (fun _ _ _ => by simp)
  obtain ⟨st, Hs, ok, w⟩ := q
  simp only [wpE] at w
  refine ⟨st, Hs, ok, ?_⟩
  simp only [wpA]
  refine wpE_mono hC w fun r s1 w => ?_
  intro vs H1 Hs1 ok1 f1 r1 n1
  obtain ⟨v, ws, rfl, r1, t, _⟩ := r1
  cases (show ws = [] from t)
  obtain ⟨xs, e, so, w⟩ := w
  obtain ⟨a, us, rfl, h1, h2⟩ := ok1.view r1 e
  refine ⟨Hs1, a, us, xs, rfl, ok1.sub, h1, h2, so, fun ws p sw hp => ?_⟩
  obtain ⟨ok4, f4, r4, n4⟩ := ok1.grow (Grow.lst (b := false) hp sw)
  exact w _ _ _ ok4 (f1.trans f4) r4 (n4.back f1)
theorem se_srr (g : Gd T k gs N sc X) {p pos kp cp : Pos} {kk : Nat} {e0 : Expr} {x : E} (he : SE T k X e0 x) (hns : ∀ a b, e0 ≠ .Starred a b) (hg : isGl sc "sorted" = true) : SE T k X (.Call (.Name "sorted" p) [e0] [⟨some "reverse", .Constant (.bool true) kk cp, kp⟩] pos) (.srr x) := by
  have hC := call_mono T k
  have pa : PA X [e0] (TrA (call T k) (.cons x .nil)) := by
    refine PA.imp (L2.pa_cons he.pe L2.pa_nil (starEach_of hns _ _)) fun σ H Q q => ?_
    obtain ⟨st, Hs, ok, w⟩ := q
    simp only [wpA] at w
    refine bindE hC ok w fun r s1 v H1 Hs1 w ok1 f1 r1 n1 => ?_
    exact w [v] H1 Hs1 ok1 f1 ⟨v, [], rfl, r1, rfl, fun a _ => by simp [tmps]⟩ (fun a ha => n1 a (by simpa [tmps] using ha))
  refine SE.mk' (PE.imp (L2.pe_callBK (srr_R g.room) (g.gl hg) (g.blt _ (by decide)) bb_sorted pa (L2.pk_cons L2.pe_bl L2.pk_nil) (by decide) (by decide) (by rw [starEach_of hns]; rfl) (by rw [starEach_of hns]; rfl)) fun σ H Q q => ?_) (fun _ => rfl) (fun st Q w => by simpa only [wpT] using w) (fun _ _ _ => by simp)
  obtain ⟨st, Hs, ok, w⟩ := q
  simp only [wpE] at w
  refine ⟨st, Hs, ok, ?_⟩
  simp only [wpA]
  refine wpE_mono hC w fun r s1 w => ?_
  intro vs H1 Hs1 ok1 f1 r1 n1
  obtain ⟨v, ws, rfl, r1, t, _⟩ := r1
  cases (show ws = [] from t)
  obtain ⟨xs, e, so, w⟩ := w
  obtain ⟨a, us, rfl, h1, h2⟩ := ok1.view r1 e
  refine ⟨Hs1, a, us, xs, rfl, rfl, ok1.sub, h1, h2, so, fun ws p sw hp => ?_⟩
  obtain ⟨ok4, f4, r4, n4⟩ := ok1.grow (Grow.lst (b := false) hp sw)
  exact w _ _ _ ok4 (f1.trans f4) r4 (n4.back f1)
theorem PE.or {X : Cx} {e : Expr} {t t' : TE} (h : PE X e t) (h' : PE X e t') : PE X e (fun σ H Q => t σ H Q ∨ t' σ H Q) := ⟨fun pins s σ H Q I q => q.elim (fun q => h.run pins s σ H Q I q) fun q => h'.run pins s σ H Q I q⟩
theorem ty_of {t : Str} {ty : String} (h : tyOf t = some ty) : ty ∈ tyNames ∧ t ∈ bltNames ∧ bootBuiltins t = some (.type ty) := by
  unfold tyOf at h
  have hd : ∀ y ∈ [(("int" : Str), "int"), ("bool", "bool"), ("str", "str"), ("list", "list"), ("tuple", "tuple"), ("dict", "dict")], bootBuiltins y.1 = some (.type y.2) := by
    decide +kernel
  repeat' split at h
  all_goals first
    | (cases h; subst_vars; exact ⟨by decide, by decide, hd (_, _) (by repeat (first | exact List.mem_cons_self | apply List.mem_cons_of_mem))⟩)
    | cases h
theorem se_isi (g : Gd T k gs N sc X) {p pos pt : Pos} {e0 : Expr} {x : E} {t : Str} {ty : String} (he : SE T k X e0 x) (hns : ∀ a b, e0 ≠ .Starred a b) (hg : isGl sc "isinstance" = true) (ht : tyOf t = some ty) (hn : nameOk t = true) (hgt : isGl sc t = true) :
    SE T k X (.Call (.Name "isinstance" p) [e0, .Name t pt] [] pos) (.isi x ty) := by
  have hC := call_mono T k
  obtain ⟨n1, n2, n3⟩ := nameOk_of hn
  obtain ⟨t1, t2, t3⟩ := ty_of ht
  have pt : PE X (.Name t pt) (L2.tC (.ty ty)) := L2.pe_bltn (g.gl hgt) (g.blt _ t2) t3 rfl n3 n1
  refine SE.mk' (PE.imp (L2.pe_callB (isTy_R t1) (g.gl hg) (g.blt _ (by decide)) bb_isi (L2.pa_cons he.pe (L2.pa_cons pt L2.pa_nil rfl) (starEach_of hns _ _)) (by decide) (by decide) (starEach_of hns _ _) rfl) fun σ H Q q => ?_) (fun _ => rfl) (fun st Q w => by simpa only [wpT] using w) (fun _ _ _ => by simp)
  obtain ⟨st, Hs, ok, w⟩ := q
  simp only [wpE] at w
  refine bindE hC ok w fun r s1 v H1 Hs1 w ok1 f1 r1 n1 => ?_
  obtain ⟨dx, e, w⟩ := w
  exact ⟨Hs1, dx, v, rfl, ok1.sub, ok1.view r1 e, isTy_mono (fun z w => w _ H1 Hs1 ok1 f1 rfl fun a ha => by simp [tmp] at ha) w⟩
theorem se_join {apos cpos p1 : Pos} {e0 : Expr} {x : E} {z : Str} {kk : Nat} (g : Gd T k gs N sc X) (hl : (apos.endLine == cpos.line) = true) (he : SE T k X e0 x) (hns : ∀ a b, e0 ≠ .Starred a b) :
    SE T k X (.Call (.Attribute (.Constant (.str z) kk p1) "join" apos) [e0] [] cpos) (.mth .join (.cst (.str z)) (.cons x .nil)) := by
  have hC := call_mono T k
  have pa : PA X [e0] (TrA (call T k) (.cons x .nil)) := by
    refine PA.imp (L2.pa_cons he.pe L2.pa_nil (starEach_of hns _ _)) fun σ H Q q => ?_
    obtain ⟨st, Hs, ok, w⟩ := q
    simp only [wpA] at w
    refine bindE hC ok w fun r s1 v H1 Hs1 w ok1 f1 r1 n1 => ?_
    exact w [v] H1 Hs1 ok1 f1 ⟨v, [], rfl, r1, rfl, fun a _ => by simp [tmps]⟩ (fun a ha => n1 a (by simpa [tmps] using ha))
  refine SE.mk' (PE.imp (L2.pe_bm PySem.F.plainAttrs_str PySem.F.slot_str_join PySem.F.type_str_join join_R L2.pe_str pa rfl (by rw [starEach_of hns]; rfl) hl (starEach_of hns _ _) rfl) fun σ H Q q => ?_) (fun _ => rfl) (fun st Q w => by simpa only [wpT] using w) (fun _ _ _ => by simp)
  obtain ⟨st, Hs, ok, w⟩ := q
  simp only [wpE] at w
  refine ⟨rfl, ?_⟩
  obtain ⟨x0, e0, rc, w⟩ := w
  refine bindA hC ok w fun rs s1 vs H1 Hs1 w ok1 f1 r1 nf => ?_
  obtain ⟨dx, xs, e1, e, w⟩ := w
  cases e1
  refine ⟨Hs1, .str z, xs, ok1.sub, (show RV Hs1 H1 (.str z) (.str z) from rfl), RA.views ok1 r1 e, meth_mono (fun z w v' H' Hs' g => ?_) w⟩
  obtain ⟨ok2, f2, r2, n2⟩ := ok1.grow g
  exact w v' H' Hs' ok2 (f1.trans f2) r2 (n2.back f1)
/-- a method of a value whose type is told when it is there -/
theorem pe_bmT {X : Cx} {o e0 : Expr} {es : List Expr} {name : Str} {apos cpos : Pos} {to : TE} {t : TA} {F : V → Hp → VK → TA → L2.St → Prop} (ho : PE X o to) (ha : PA X (e0 :: es) t)
    (hbase : attributeBase o name X.env (eval o X.env) = eval o X.env)
    (hfew : ((backTo cpos (starEach (e0 :: es) X.env)).all (fun x => !x.1) && (backToKw cpos (keywordEach [] X.env)).all (fun x => x.1.isSome)
      && decide ((e0 :: es).length + ([] : List Keyword).length + (if ([] : List Keyword).isEmpty then 0 else 1) < 30)) = true)
    (hline : (apos.endLine == cpos.line) = true) (hs : starEach (e0 :: es) X.env = (false, eval e0 X.env) :: starEach es X.env) (hplain : (backTo cpos (starEach es X.env)).any (·.1) = false) :
    PE X (.Call (.Attribute o name apos) (e0 :: es) [] cpos) (fun σ H Q => to σ H fun x H1 => ∃ (T0 id : String) (r : V → List V → Hp → VK → Prop), PySem.PlainAttrs T0 ∧ PySem.Slot T0 name id ∧ typeOf (.builtin id) = pure (.type "method_descriptor") ∧ MtR X id r ∧
      L2.tyV X.K T0 x H1 ∧ t σ H1 fun xs H2 => r x xs H2 Q) := by
  refine ⟨fun pins s σ H Q I h => ?_⟩
  refine wpAny_Call_method_late hbase hfew hline rfl (thn (ho.run pins s σ H _ I h) fun v s1 ⟨x, H1, I1, r1, T0, id, r, pa, slot, hty, hm, ty, q1⟩ => ?_)
  obtain ⟨h1, h2⟩ := L2.tyV_is I1 r1 ty
  refine ⟨T0, id, pa, slot, hty, h1, h2, ?_⟩
  have hA := ha.run cpos pins s1 σ H1 _ I1 q1
  rw [hs] at hA ⊢
  refine Calls.callWith_builtin (by show (false || (backTo cpos (starEach es X.env)).any (·.1)) = false; rw [hplain] <;> rfl) (Calls.evalArgs_plain ?_)
  exact thn hA fun us s2 ⟨vs, H2, I2, r2, q2⟩ => hm pins s2 σ H2 x vs v us Q I2 r1 r2 q2
theorem isCall_base {o : Expr} {m : Str} {env : Env} (h : isCall o = false) (w : Sem Value) : attributeBase o m env w = w := by
  cases o <;> first | (cases h; done) | rfl
/-- o.index(e), o.count(e) of a text or a list -/
theorem se_mp {apos cpos : Pos} {o e0 : Expr} {m : Str} {mp : MP} {y x : E} (g : Gd T k gs N sc X) (hl : (apos.endLine == cpos.line) = true) (hm : mpOf m = some mp) (ho : SE T k X o y) (he : SE T k X e0 x) (hns : ∀ a b, e0 ≠ .Starred a b)
    (hb : isCall o = false) : SE T k X (.Call (.Attribute o m apos) [e0] [] cpos) (.mth mp y (.cons x .nil)) := by
  have hC := call_mono T k
  have pa : PA X [e0] (TrA (call T k) (.cons x .nil)) := by
    refine PA.imp (L2.pa_cons he.pe L2.pa_nil (starEach_of hns _ _)) fun σ H Q q => ?_
    obtain ⟨st, Hs, ok, w⟩ := q
    simp only [wpA] at w
    refine bindE hC ok w fun r s1 v H1 Hs1 w ok1 f1 r1 n1 => ?_
    exact w [v] H1 Hs1 ok1 f1 ⟨v, [], rfl, r1, rfl, fun a _ => by simp [tmps]⟩ (fun a ha => n1 a (by simpa [tmps] using ha))
  refine SE.mk' (PE.imp (pe_bmT (F := fun _ _ _ _ _ => True) ho.pe pa (isCall_base hb _) (by rw [starEach_of hns]; rfl) hl (starEach_of hns _ _) rfl) fun σ H Q q => ?_) (fun _ => rfl) (fun st Q w => by simpa only [wpT] using w) (fun _ _ _ => by simp)
  obtain ⟨st, Hs, ok, w⟩ := q
  simp only [wpE] at w
  refine bindE hC ok w fun ro s1 v H1 Hs1 w ok1 f1 r1 n1 => ?_
  obtain ⟨x0, e0, rc, w⟩ := w
  have rv0 := ok1.view r1 e0
  have rest : ∀ (pr : V → Prop), pr v → TrA (call T k) (.cons x .nil) σ H1 fun xs H2 => pr v ∧ rMeth mp v xs H2 Q := by
    intro pr hp
    refine bindA hC ok1 w fun rs s2 vs H2 Hs2 w ok2 f2 r2 nf => ?_
    obtain ⟨dx, xs, e1, e, w⟩ := w
    refine ⟨hp, Hs2, dx, xs, ok2.sub, ok2.view (r1.lift f2) e1, RA.views ok2 r2 e, meth_mono (fun z w v' H' Hs' g => ?_) w⟩
    obtain ⟨ok3, f3, r3, n3⟩ := ok2.grow g
    exact w v' H' Hs' ok3 ((f1.trans f2).trans f3) r3 (n3.back (f1.trans f2))
  unfold mpOf at hm
  split at hm
  · rename_i em
    subst em
    cases hm
    cases x0 with
    | str z =>
      cases (show v = _ from rv0)
      exact ⟨"str", _, _, PySem.F.plainAttrs_str, PySem.F.slot_str_index, PySem.F.type_str_index, index_RS, rfl, rest (fun v => ∃ z, v = .str z) ⟨z, rfl⟩⟩
    | lst zs =>
      obtain ⟨a, us, rfl, h1, h2⟩ := rv0
      exact ⟨"list", _, _, PySem.F.plainAttrs_list, PySem.F.slot_list_index, PySem.F.type_list_index, index_RL g.room, .inl ⟨rfl, us, SqL.of h1⟩, rest (fun v => ∃ a, v = .ref a) ⟨a, rfl⟩⟩
    | _ => cases rc
  · split at hm
    · rename_i em
      subst em
      cases hm
      cases x0 with
      | str z =>
        cases (show v = _ from rv0)
        exact ⟨"str", _, _, PySem.F.plainAttrs_str, PySem.F.slot_str_count, PySem.F.type_str_count, count_RS, rfl, rest (fun v => ∃ z, v = .str z) ⟨z, rfl⟩⟩
      | _ => cases rc
    · cases hm
theorem type_list_clear' : typeOf (.builtin "list.clear") = pure (.type "method_descriptor") := by show builtinType _ = _; rw [builtinType_eq_fast]; kernel_rfl
theorem type_list_reverse' : typeOf (.builtin "list.reverse") = pure (.type "method_descriptor") := by show builtinType _ = _; rw [builtinType_eq_fast]; kernel_rfl
theorem mu_of {m : Str} {mu : MU} (h : mutOf m = some mu) : PySem.Slot "list" m (mId mu) ∧ typeOf (.builtin (mId mu)) = pure (.type "method_descriptor") := by
  unfold mutOf at h
  repeat' split at h
  all_goals first
    | (cases h; subst_vars; exact ⟨PySem.F.slot_list_append, PySem.F.type_list_append⟩)
    | (cases h; subst_vars; exact ⟨PySem.F.slot_list_pop, PySem.F.type_list_pop⟩)
    | (cases h; subst_vars; exact ⟨PySem.F.slot_list_reverse, type_list_reverse'⟩)
    | (cases h; subst_vars; exact ⟨PySem.F.slot_list_clear, type_list_clear'⟩)
    | (cases h; subst_vars; exact ⟨PySem.F.slot_list_extend, PySem.F.type_list_extend⟩)
    | (cases h; subst_vars; exact ⟨PySem.F.slot_list_insert, PySem.F.type_list_insert⟩)
    | cases h
/-- o.m(..) of a variable's own list -/
theorem se_chg (g : Gd T k gs N sc X) {n : Nat} (ih : ∀ ex e, compE N gs n sc ex = some e → SE T k X ex e) {x m : Str} {p apos cpos : Pos} {es : List Expr} {mu : MU} {i : Nat} {a : E} (hl : (apos.endLine == cpos.line) = true) (hm : mutOf m = some mu) (hn : nameOk x = true)
    (hv : sc.names.lookup x = some .local ∨ sc.names.lookup x = some .cell ∨ sc.names.lookup x = some .free) (hi : ixOf N x = some i) (hfew : es.length ≤ 2) (h : compAll (compE N gs n sc) es = some a) :
    SE T k X (.Call (.Attribute (.Name x p) m apos) es [] cpos) (.chg mu i a) := by
  have hC := call_mono T k
  obtain ⟨n1, n2, n3⟩ := nameOk_of hn
  obtain ⟨m1, m2⟩ := mu_of hm
  have pv : PE X (.Name x p) (L2.tVar i) := L2.pe_var (by rw [g.eqN]; exact ixOf_at hi) (g.vis hv) n1 n2
  -- the list, the arguments; then the change
  have rd : ∀ σ H Q, TrE (call T k) (.chg mu i a) σ H Q → ∃ v, σ[i]? = some (some v) ∧ L2.tyV X.K "list" v H ∧ TrA (call T k) a σ H fun vs H1 => rMut mu v vs H1 Q := by
    intro σ H Q q
    obtain ⟨st, Hs, ok, w⟩ := q
    simp only [wpE] at w
    obtain ⟨⟨p0, xs0, e0⟩, w⟩ := w
    obtain ⟨v, ev, rp⟩ := ok.rep i _ e0
    refine ⟨v, ev, ?_, ?_⟩
    · obtain ⟨b, us, rfl, h1, _⟩ := rp
      exact .inl ⟨rfl, us, SqL.of h1⟩
    · refine bindA hC ok w fun rs s1 vs H1 Hs1 w ok1 f1 r1 nf => ?_
      obtain ⟨ds, s2, ef, p, xs, e2, w⟩ := w
      obtain ⟨Hs2, ok2, f2, sh, _⟩ := frozAll_ok f1 ok1 f1 r1 nf ef
      obtain ⟨b, us, rfl, h1, h2, h3⟩ := ok2.lst_at e2 ev
      refine ⟨Hs2, b, us, xs, ds, rfl, ok2.sub, h1, h2, sh, muta_mono (fun z ys w v' ws sz sy => ?_) w⟩
      obtain ⟨ok3, f3⟩ := ok2.chg e2 ev h1 sy
      exact w v' _ Hs2 ok3 (f2.trans f3) sz fun a ha => by simp [tmp] at ha
  have pe : PE X (.Call (.Attribute (.Name x p) m apos) es [] cpos) (TrE (call T k) (.chg mu i a)) := by
    match es, hfew with
    | [], _ =>
      refine PE.imp (L2.pe_bm0 PySem.F.plainAttrs_list m1 m2 muta_R pv rfl hl) fun σ H Q q => ?_
      obtain ⟨v, ev, ty, w⟩ := rd σ H Q q
      refine ⟨v, ev, ty, ?_⟩
      simp only [compAll, Option.some.injEq] at h
      subst h
      obtain ⟨st, Hs, ok, w⟩ := w
      simp only [wpA] at w
      exact w [] H Hs ok Fr.refl rfl fun a ha => by simp [tmps] at ha
    | [e0], _ =>
      have st := compAll_star h e0 (by simp)
      refine PE.imp (L2.pe_bm PySem.F.plainAttrs_list m1 m2 muta_R pv (snd_A ih h) rfl (by rw [starEach_of st]; rfl) hl (starEach_of st _ _) rfl) fun σ H Q q => ?_
      obtain ⟨v, ev, ty, w⟩ := rd σ H Q q
      exact ⟨v, ev, ty, w⟩
    | [e0, e1], _ =>
      have st := compAll_star h e0 (by simp)
      have st1 := compAll_star h e1 (by simp)
      refine PE.imp (L2.pe_bm PySem.F.plainAttrs_list m1 m2 muta_R pv (snd_A ih h) rfl (by rw [starEach_of st, starEach_of st1]; rfl) hl (starEach_of st _ _) (by rw [starEach_of st1]; rfl)) fun σ H Q q => ?_
      obtain ⟨v, ev, ty, w⟩ := rd σ H Q q
      exact ⟨v, ev, ty, w⟩
  exact SE.mk' pe (fun _ => rfl) (fun st Q w => by simpa only [wpT] using w) (fun _ _ _ => by simp)
end
end Itp

namespace Itp
variable [KF]
open PySem PySem.Spec PyProof.Rows
open L2 (V Hp HO upd upd_same upd_ne ne_of ne_of_none Same Cx Inv OpR CallR MtR IxR SlR PSet TruR Room RelV EP VK SqL SqT Dp DpAll It TI TE TA TT TG TGs TS TO PI PE PT PW PA PG PGs PS PSs PO PTs PIE thn Turn FpOk Itl Itt Its Itr Itc Itv Ite Itz Gl Vis Loc Sp FnOk Binds Ends)
section
variable {σ σ' : L2.St} {st st' : St} {Hs H Hs' H' : Hp}
/-- a list that is nobody's is written -/
theorem Ok.poke (k : Ok σ st Hs H) {D : Addr} {o : HO} (hs : Hs D = none) (nh : ¬ Hel σ st D) : Ok σ st Hs (upd H D o) := by
  refine ⟨k.len, fun b x q => by rw [upd_ne (ne_of_none q hs)]; exact k.sub b x q, fun i o q => ?_, k.inj⟩
  obtain ⟨v, e, r⟩ := k.rep i o q
  refine ⟨v, e, ?_⟩
  cases o with
  | d x => exact r
  | l p xs =>
    obtain ⟨a, vs, rfl, h1, h2, h3⟩ := r
    exact ⟨a, vs, rfl, by rw [upd_ne (fun z => nh ⟨i, _, q, rfl, by rw [e, z]⟩)]; exact h1, h2, h3⟩
  | k p xs =>
    obtain ⟨a, vs, rfl, h1, h2, h3⟩ := r
    exact ⟨a, vs, rfl, by rw [upd_ne (fun z => nh ⟨i, _, q, rfl, by rw [e, z]⟩)]; exact h1, h2, h3⟩
theorem Fr.poke (f : Fr σ st Hs H σ' st' Hs' H') {D : Addr} {o : HO} (n : H D = none) : Fr σ st Hs H σ' st' Hs' (upd H' D o) :=
  ⟨f.sub, fun a x h no => by rw [upd_ne (ne_of_none h n)]; exact f.keep a x h no, fun a z => f.dom a (upd_none z), f.own, f.shr, f.kk, f.kp, f.lp, f.bd, f.sz⟩
theorem wipe_eqV {L : List Nat} {s1 s2 : L2.St} (hl : s1.length = s2.length) (h : ∀ j, j ∉ L → s1[j]? = s2[j]?) : L2.wipe s1 L = L2.wipe s2 L := by
  refine List.ext_getElem? fun j => ?_
  rw [wipeV_at, wipeV_at]
  split
  · by_cases hj : j < s1.length
    · rw [List.getElem?_eq_getElem hj, List.getElem?_eq_getElem (show j < s2.length by omega)]; rfl
    · rw [List.getElem?_eq_none (l := s1) (by omega), List.getElem?_eq_none (l := s2) (by omega)]
  · exact h j (by assumption)
/-- a turn's item -/
theorem yld_ok {J : It} {xs : List D} {G : Hp → Prop} {Hb H2 : Hp} {i : Nat} {v : V} {x : D} (wl : Wlk Hb J xs G) (k : Ok σ st Hs H) (sb : Same Hb Hs) (g : G H) (e : xs[i]? = some x) (y : J.yld i H v H2) :
    ∃ Hs2, Sh Hs2 x v ∧ Ok σ st Hs2 H2 ∧ Fr σ st Hs H σ st Hs2 H2 := by
  obtain ⟨Hs2, sh, h⟩ := wl.yields i H v H2 Hs x e g sb k.sub y
  refine ⟨Hs2, sh, ?_⟩
  rcases h with ⟨rfl, rfl⟩ | ⟨T, o, n, rfl, rfl⟩
  · exact ⟨k, Fr.refl⟩
  · exact ⟨k.layS n, Fr.layS k n⟩
end
section
variable {C : Ct} (hC : CtMono C)
include hC
theorem lc_read {own : List Nat} {t : Tg} {s : Src} {as c e : E} (ht : ∀ j ∈ slots t, j ∈ own) (σ : L2.St) (H : Hp) (Q : VK) (h : TrE C (.comp own t s as c e) σ H Q) : L2.tLc (TrI C s as) (TrG t) (TrT C c) (TrE C e) own σ H Q := by
  obtain ⟨st, Hs, ok, w⟩ := h
  simp only [wpE] at w
  refine ⟨st, Hs, ok, wpA_mono hC w fun rs s1 w vs H1 Hs1 ok1 f1 r1 n1 => ?_⟩
  obtain ⟨ds, ev, w⟩ := w
  have nf := items_frz w
  refine ⟨ds, ev, items_mono (fun xs w J wl => ?_) w⟩
  intro D hD
  have hL : ∀ i ∈ lent rs s1, ∃ p xs, s1[i]? = some (some (.l p xs)) := fun i hi => lent_at hi
  have okL := ok1.lock (lent rs s1)
  have src : ∀ a, V.ref a ∈ vs → ¬ Own σ (Itp.lock (lent rs s1) s1) a := fun a ha => src_free ok1 r1 ev nf ha
  generalize hL0 : Itp.lock (lent rs s1) s1 = s0 at w okL src
  let P : Nat → Hp → Prop := fun i H' => ∃ s Hs' acc us, Ok σ s Hs' H' ∧ Fr σ s0 Hs1 H1 σ s Hs' H' ∧ H' D = some (.lst us) ∧ ShA Hs' acc us ∧ Hs' D = none ∧ ¬ Hel σ s D ∧ (∀ j ∈ own, s[j]?.join = s0[j]?.join) ∧
    compL t own s0 (fun s Q => wpT C c s Q) (fun s Q => wpE C e s Q) (Itp.unlock (lent rs s1)) (PostE Q σ st Hs H) (xs.drop i) acc s
  have nhD : ¬ Hel σ s0 D := fun z => by
    obtain ⟨⟨us, q⟩, _⟩ := okL.own_at z
    rw [hD] at q; cases q
  refine ⟨fun i m H' => m = xs.length - i ∧ i ≤ xs.length ∧ P i H', ⟨xs.length, by simp, Nat.zero_le _, s0, Hs1, [], [], okL.lay hD, Fr.lay okL hD, upd_same, rfl, Same.free ok1.sub hD, nhD, fun _ _ => rfl, w⟩, ?_⟩
  rintro i m H' ⟨rfl, hi, s, Hs', acc, us, k', f', eD, sA, nD, nh, ho, w⟩
  have held : Held vs H1 H' := fun a o ha e => f'.keep a o e (src a ha)
  by_cases hlt : i < xs.length
  · refine .inr ⟨wl.goes i H' hlt held, P (i + 1), fun H'' p => ⟨xs.length - (i + 1), by omega, rfl, hlt, p⟩, fun x H2 y => ?_⟩
    rw [List.drop_eq_getElem_cons hlt] at w
    simp only [compL] at w
    obtain ⟨s2, es, w⟩ := w
    obtain ⟨Hs2, sh, k2, f2⟩ := yld_ok wl k' f'.sub held (List.getElem?_eq_getElem hlt) y
    have eD2 : H2 D = some (.lst us) := f2.keep D _ eD fun z => nh z.hel
    have nD2 : Hs2 D = none := f2.shr D nD (fun z => nh z.hel) (by rw [eD]; simp)
    refine ⟨Itp.wipe s own, Hs2, xs[i], s2, k2.wipe own, sh, es, fun σ2 k3 f3 n3 => ?_⟩
    have nhW : ¬ Hel (L2.wipe σ own) (Itp.wipe s own) D := fun ⟨j, o, q1, hh, q2⟩ => nh ⟨j, o, (wipe_some q1).1, hh, (wipeV_some q2).1⟩
    have eqo : ∀ j, j ∉ own → σ2[j]? = (L2.wipe σ own)[j]? := fun j hj => n3 j fun z => hj (ht j z)
    have len2 : σ2.length = σ.length := by rw [← k3.len, f3.sz, (k2.wipe own).len, L2.wipe_length]
    refine ⟨wipe_eqV len2 fun j hj => by rw [eqo j hj, wipeV_out hj], ?_⟩
    -- behind the turn
    have fin : ∀ {s4 : St} {Hs4 H4 : Hp}, Ok σ2 s4 Hs4 H4 → Fr (L2.wipe σ own) (Itp.wipe s own) Hs2 H2 σ2 s4 Hs4 H4 → Ok σ (mend s0 s4 own) Hs4 H4 ∧ Fr σ s0 Hs1 H1 σ (mend s0 s4 own) Hs4 H4 ∧ H4 D = some (.lst us) ∧ Hs4 D = none ∧ ¬ Hel σ (mend s0 s4 own) D ∧ (∀ j ∈ own, (mend s0 s4 own)[j]?.join = s0[j]?.join) ∧ Same Hs' Hs4 := by
      intro s4 Hs4 H4 k4 f4
      obtain ⟨a, b, c⟩ := mend_ok k2 ho f4 k4 eqo
      refine ⟨a, (f'.trans f2).trans b, f4.keep D _ eD2 fun z => nhW z.hel, f4.shr D nD2 (fun z => nhW z.hel) (by rw [eD2]; simp), fun z => ?_, c, f2.sub.trans b.sub⟩
      rcases (f2.trans b).hel z with z | z
      · exact nh z
      · rw [eD] at z; cases z
    refine bindT hC k3 w fun b s3 H3 Hs3 w k4 f4 => ?_
    cases b with
    | false =>
      obtain ⟨a1, a2, a3, a4, a5, a6, a7⟩ := fin k4 (f3.trans f4)
      exact ⟨_, Hs3, acc, us, a1, a2, a3, ShA.mono a7 sA, a4, a5, a6, w⟩
    | true =>
      refine bindE hC k4 w fun r s4 v4 H4 Hs4 w k5 f5 r5 n5 => ?_
      obtain ⟨d, s5, ef, l, w⟩ := w
      obtain ⟨Hs5, k6, f6, sh6, _, _⟩ := froz_ok (rs := []) (ws := []) k5 ((f3.trans f4).trans f5) r5 (fun a ha => by
        rcases n5 a ha with z | z
        · exact (f3.trans f4).own a z
        · exact .inr ((f3.trans f4).dom a z)) ef rfl (fun a _ => by simp [tmps])
      obtain ⟨a1, a2, a3, a4, a5, a6, a7⟩ := fin k6 f6
      refine ⟨us, a3, by rw [← line_eq, ← sA.len]; exact l, ?_⟩
      exact ⟨_, Hs5, acc ++ [d], us ++ [v4], a1.poke a4 a5, a2.poke hD, upd_same, (ShA.mono a7 sA).app ⟨v4, [], rfl, sh6, rfl⟩, a4, a5, a6, w⟩
  · have e : i = xs.length := by omega
    subst e
    refine .inl ⟨wl.stops H' held, ?_⟩
    rw [List.drop_length] at w
    simp only [compL] at w
    have f'' : Fr σ (Itp.lock (lent rs s1) s1) Hs1 H1 σ s Hs' H' := by rw [hL0]; exact f'
    obtain ⟨k3, f3⟩ := unlock_ok hL ok1 f'' k'
    refine w (.ref D) H' Hs' k3 (f1.trans f3) (RRep.unlock (r := .v (.l false acc)) ⟨D, us, rfl, eD, sA, nD, nh⟩) fun a ha => ?_
    have : a = D := by simpa [tmp] using ha
    subst this
    exact .inr (f1.dom a hD)
end
theorem PTs.imp {X : Cx} {e : List Expr} {t t' : TT} (h : PTs X e t) (i : ∀ σ H Q, t' σ H Q → t σ H Q) : PTs X e t' := ⟨fun pins s σ H Q I q => h.run pins s σ H Q I (i _ _ _ q)⟩
section
variable {T : Tab} {k : Nat} {gs : Gs} {N : List Str} {sc : Scope} {X : Cx}
theorem rel_lookup {scope sc : Scope} {x : Str} : ∀ (names : List (Str × NameKind)), (names.map fun (n, k) => if (k == .free && sc.kind == .function && sc.names.lookup n == some .cell) then (n, NameKind.cell) else (n, k)).lookup x = (names.lookup x).map fun k => if (k == .free && sc.kind == .function && sc.names.lookup x == some .cell) then .cell else k
  | [] => rfl
  | (n, k) :: r => by
    have ih := rel_lookup (scope := scope) (sc := sc) (x := x) r
    cases hx : x == n with
    | true =>
      have e : x = n := by simpa using hx
      subst e
      simp only [List.map_cons]
      by_cases hc : (k == .free && sc.kind == .function && sc.names.lookup x == some .cell) = true
      · rw [if_pos hc, List.lookup_cons, List.lookup_cons, hx]; simp only [Option.map_some, if_pos hc]
      · rw [if_neg hc, List.lookup_cons, List.lookup_cons, hx]; simp only [Option.map_some, if_neg hc]
    | false =>
      simp only [List.map_cons]
      by_cases hc : (k == .free && sc.kind == .function && sc.names.lookup n == some .cell) = true
      · rw [if_pos hc, List.lookup_cons, List.lookup_cons, hx]; exact ih
      · rw [if_neg hc, List.lookup_cons, List.lookup_cons, hx]; exact ih
theorem loc_rel {scope sc : Scope} {x : Str} (h : Loc scope x) : Loc (L2.relS scope sc) x := by
  unfold L2.Loc L2.relS
  simp only
  rcases h with h | h
  · left
    rw [rel_lookup (scope := scope), h]; rfl
  · right
    rw [rel_lookup (scope := scope), h]; rfl
theorem Gd.blk (g : Gd T k gs N sc X) {s : Shared} {H : Hp} {scope : Scope} {C : Addr} {cl : List (Str × Addr)} {fp : List Addr} : Gd T k gs N (L2.relS scope sc) (X.blk s H scope (compEnvC scope cl C X.env) fp) := by
  refine ⟨g.eqN, g.nd, ?_, g.calm, g.kk, g.room, g.gd, g.blt, g.cst, g.tab⟩
  have := g.eqS
  subst this
  rfl
/-- a block's parts, at every start -/
theorem lc_parts (g : Gd T k gs N sc X) {n : Nat} (ih : ∀ (sc : Scope) (X : Cx), Gd T k gs N sc X → ∀ ex e, compE N gs n sc ex = some e → SE T k X ex e) {elt tg it : Expr} {ifs : List Expr} {scope : Scope} {t : Tg} {s : Src} {as c e : E}
    (h1 : compI (compE N gs n sc) sc gs (isTup tg) it = some (s, as)) (h2 : compTg N scope 8 tg = some t) (h3 : compE N gs n (L2.relS scope sc) elt = some e) (h4 : (ifs = [] ∧ c = .nop) ∨ ∃ cx, ifs = [cx] ∧ compE N gs n (L2.relS scope sc) cx = some c) :
    PI X tg it (TrI (call T k) s as) ∧ (∀ (s : Shared) (H : Hp) (C : Addr) (cl : List (Str × Addr)) (fp : List Addr), PG (X.blk s H scope (compEnvC scope cl C X.env) fp) tg (TrG t)) ∧
      (∀ (s : Shared) (H : Hp) (C : Addr) (cl : List (Str × Addr)) (fp : List Addr), PTs (X.blk s H scope (compEnvC scope cl C X.env) fp) ifs (TrT (call T k) c)) ∧
      (∀ (s : Shared) (H : Hp) (C : Addr) (cl : List (Str × Addr)) (fp : List Addr), PE (X.blk s H scope (compEnvC scope cl C X.env) fp) elt (TrE (call T k) e)) := by
  refine ⟨snd_I g (ih sc X g) h1, fun s H C cl fp => ?_, fun s H C cl fp => ?_, fun s H C cl fp => (ih _ _ g.blk _ _ h3).pe⟩
  · refine pg_ok (lsc := scope) (g.blk (s := s) (H := H) (C := C) (cl := cl) (fp := fp)) (fun x hx => ⟨loc_rel hx, ?_⟩) 8 tg t h2
    rcases hx with hx | hx
    · right
      show (L2.relS scope sc).names.lookup x = some .local
      unfold L2.relS
      simp only
      rw [rel_lookup (scope := scope), hx]; rfl
    · left
      show (scope.names.lookup x == some .cell) = true
      rw [hx]; rfl
  · rcases h4 with ⟨rfl, rfl⟩ | ⟨cx, rfl, hc⟩
    · refine PTs.imp L2.pts_nil fun σ H Q q => ?_
      obtain ⟨st, Hs, ok, w⟩ := q
      simp only [wpT] at w
      exact w H Hs ok Fr.refl
    · exact L2.pts_one (ih _ _ g.blk _ _ hc).pt
theorem se_comp (g : Gd T k gs N sc X) {n : Nat} (ih : ∀ (sc : Scope) (X : Cx), Gd T k gs N sc X → ∀ ex e, compE N gs n sc ex = some e → SE T k X ex e) {elt tg it : Expr} {ifs : List Expr} {scope : Scope} {pos : Pos} {t : Tg} {s : Src} {as c e : E}
    (hb : L2.blkC N sc scope (ownOf N scope) = true) (hns : ∀ a b c, it ≠ .Set a b c)
    (h1 : compI (compE N gs n sc) sc gs (isTup tg) it = some (s, as)) (h2 : compTg N scope 8 tg = some t) (h3 : compE N gs n (L2.relS scope sc) elt = some e) (h4 : (ifs = [] ∧ c = .nop) ∨ ∃ cx, ifs = [cx] ∧ compE N gs n (L2.relS scope sc) cx = some c)
    (h5 : ∀ j ∈ slots t, j ∈ (ownOf N scope).map (·.2)) : SE T k X (.ListComp elt [⟨tg, it, ifs, 0⟩] scope pos) (.comp ((ownOf N scope).map (·.2)) t s as c e) := by
  have hC := call_mono T k
  obtain ⟨p1, p2, p3, p4⟩ := lc_parts g ih h1 h2 h3 h4
  have bk : L2.BlkOk X.N X.env.scope scope (ownOf N scope) := by
    rw [g.eqN, g.eqS]
    exact L2.blkOk_by hb
  exact SE.mk' (PE.imp (L2.pe_lc g.calm (by rw [g.eqN]; exact g.nd) p1 bk p2 p3 p4 (fun x => foldSet_of hns _ x)) fun σ H Q q => lc_read hC h5 σ H Q q) (fun _ => rfl) (fun st Q w => by simpa only [wpT] using w) (fun _ _ _ => by simp)
theorem compI_set {f : Expr → Option E} {sc : Scope} {gs : Gs} {tp : Bool} {it : Expr} {s : Src} {as : E} (hf : ∀ a b c, f (.Set a b c) = none) (h : compI f sc gs tp it = some (s, as)) : ∀ a b c, it ≠ .Set a b c := by
  intro a b c z
  subst z
  simp [compI, hf] at h
theorem vis_of {x : Str} (h : isLoc sc x = true ∨ sc.names.lookup x = some .free) : sc.names.lookup x = some .local ∨ sc.names.lookup x = some .cell ∨ sc.names.lookup x = some .free := by
  rcases h with z | z
  · rcases loc_of z with z | z
    · exact .inl z
    · exact .inr (.inl z)
  · exact .inr (.inr z)
theorem lastMarks_of {o1 o2 : CmpOp} {b c : Expr} (h1 : ∀ x y z, b ≠ .Set x y z) (h2 : ∀ x y z, c ≠ .Set x y z) : lastMarks [o1, o2] [b, c] = false := by
  show behindInMarks o2 c = false
  exact marks_of h2
theorem compE_set0 {n : Nat} : ∀ a b c, compE N gs n sc (.Set a b c) = none := by
  intro a b c
  cases n <;> simp [compE]
theorem se_blt' (g : Gd T k gs N sc X) {n : Nat} (ih : ∀ ex e, compE N gs n sc ex = some e → SE T k X ex e) {f : Str} {p pos : Pos} {es : List Expr} {b : B} {a : E} (hb : bltOf f = some b) (hn : nameOk f = true) (hg : isGl sc f = true)
    (hes : es = [] → False) (h : compAll (compE N gs n sc) es = some a) : SE T k X (.Call (.Name f p) es [] pos) (.blt b a) := by
  cases es with
  | nil => exact (hes rfl).elim
  | cons e0 es => exact se_blt g ih hb hn hg h
/-- an expression's core is sound -/
theorem snd_E : ∀ (n : Nat) (sc : Scope) (X : Cx), Gd T k gs N sc X → ∀ ex e, compE N gs n sc ex = some e → SE T k X ex e
  | 0, sc, X, g, ex, e, h => by simp [compE] at h
  | n + 1, sc, X, g, ex, e, h => by
    have ih := snd_E n
    have ih' := ih sc X g
    unfold compE at h
    split at h
    · rename_i x p
      split at h
      · rename_i hn
        have lc : ∀ {i}, ixOf N x = some i → (sc.names.lookup x = some .local ∨ sc.names.lookup x = some .cell ∨ sc.names.lookup x = some .free) → SE T k X (.Name x p) (.var i) := fun hi hv =>
          SE.mk' (pe_varT g hi hn hv) (fun _ => rfl) (fun st Q w => by simpa only [wpT] using w) (fun _ _ _ => by simp)
        split at h
        · rename_i q; simp only [Option.map_eq_some_iff] at h; obtain ⟨i, hi, rfl⟩ := h; exact lc hi (.inl q)
        · rename_i q; simp only [Option.map_eq_some_iff] at h; obtain ⟨i, hi, rfl⟩ := h; exact lc hi (.inr (.inl q))
        · rename_i q; simp only [Option.map_eq_some_iff] at h; obtain ⟨i, hi, rfl⟩ := h; exact lc hi (.inr (.inr q))
        · rename_i q
          simp only [Option.map_eq_some_iff] at h
          obtain ⟨d, hd, rfl⟩ := h
          obtain ⟨u, v, h1, h2, h3⟩ := g.cst x d hd
          have hgl : Gl X x := by show List.lookup x X.env.scope.names = _; rw [g.eqS]; exact q
          refine SE.mk' (pe_cstT (L2.pe_glob hgl h1 h2 (nameOk_of hn).1) h3) (fun _ => rfl) (fun st Q w => ?_) (fun _ _ _ => by simp)
          cases d <;> first | (simpa only [wpT] using w) | (simp only [wpT] at w; simp only [wpE]; exact ⟨_, rfl, w⟩)
        · cases h
      · cases h
    · split at h
      · cases h; exact SE.mk' (pe_cstT L2.pe_non fun _ => rfl) (fun _ => rfl) (fun st Q w => by simpa only [wpT] using w) (fun _ _ _ => by simp)
      · cases h; exact SE.mk' (pe_cstT L2.pe_bl fun _ => rfl) (fun _ => rfl) (fun st Q w => by simp only [wpT] at w; simp only [wpE]; exact ⟨_, rfl, w⟩) (fun _ _ _ => by simp)
      · cases h; exact SE.mk' (pe_cstT L2.pe_int fun _ => rfl) (fun _ => rfl) (fun st Q w => by simpa only [wpT] using w) (fun _ _ _ => by simp)
      · cases h; exact SE.mk' (pe_cstT L2.pe_str fun _ => rfl) (fun _ => rfl) (fun st Q w => by simpa only [wpT] using w) (fun _ _ _ => by simp)
      · cases h
    · split at h <;> first | (cases h; done) | (rename_i h1 h2; cases h; exact se_bin (ih' _ _ h1) (ih' _ _ h2))
    · simp only [Option.map_eq_some_iff] at h; obtain ⟨x, hx, rfl⟩ := h; exact se_neg (ih' _ _ hx)
    · simp only [Option.map_eq_some_iff] at h; obtain ⟨x, hx, rfl⟩ := h; exact se_not (ih' _ _ hx)
    · split at h <;> first | (cases h; done) | (rename_i h1 h2; cases h; exact se_cmp g (ih' _ _ h1) (ih' _ _ h2) (marks_of (compE_set h2)))
    · split at h <;> first | (cases h; done) | (rename_i h1 h2 h3; cases h; exact se_chn g (ih' _ _ h1) (ih' _ _ h2) (ih' _ _ h3) (lastMarks_of (compE_set h2) (compE_set h3)))
    · exact se_one (ih' _ _ h)
    · split at h <;> first | (cases h; done) | (rename_i h1 h2; cases h; exact se_and (ih' _ _ h1) (ih' _ _ h2))
    · split at h <;> first | (cases h; done) | (rename_i h1 h2; cases h; exact se_or (ih' _ _ h1) (ih' _ _ h2))
    · split at h <;> first | (cases h; done) | (rename_i h1 h2 h3; cases h; exact se_ite (ih' _ _ h1) (ih' _ _ h2) (ih' _ _ h3))
    · simp only [Option.map_eq_some_iff] at h; obtain ⟨x, hx, rfl⟩ := h; exact se_tup (snd_A ih' hx)
    · simp only [Option.map_eq_some_iff] at h; obtain ⟨x, hx, rfl⟩ := h; exact se_lst (snd_A ih' hx)
    · split at h
      · split at h
        · split at h <;> first | (cases h; done) | (rename_i h1 h2 h3; cases h; exact se_slc g (ih' _ _ h1) (so_of ih' h2) (so_of ih' h3))
        · split at h
          · simp only [Option.map_eq_some_iff] at h; obtain ⟨x, hx, rfl⟩ := h; exact se_rv (ih' _ _ hx)
          · cases h
        · cases h
      · split at h <;> first | (cases h; done) | (rename_i h1 h2; cases h; exact se_idx (ih' _ _ h1) (ih' _ _ h2) (plainIx_of (compE_slice h2)))
    · split at h
      · cases h
      · rename_i hng
        simp only [Bool.or_eq_true, Bool.not_eq_true', not_or, Bool.not_eq_false] at hng
        obtain ⟨hn, hg⟩ := hng
        split at h
        · rename_i hf
          simp only [Option.map_eq_some_iff] at h; obtain ⟨x, hx, rfl⟩ := h
          exact se_call g ih' (by simpa using hf) hn hg hx
        · split at h
          · rename_i b hb
            split at h
            · rename_i rs hrs
              simp only [Option.map_eq_some_iff] at h; obtain ⟨x, hx, rfl⟩ := h
              exact se_lrg g ih' hg hrs hx
            split at h
            · cases h
            · rename_i hes
              simp only [Option.map_eq_some_iff] at h; obtain ⟨x, hx, rfl⟩ := h
              exact se_blt' g ih' hb hn hg hes hx
          · split at h
            · rename_i e; subst e
              split at h
              · simp only [Option.map_eq_some_iff] at h; obtain ⟨x, hx, rfl⟩ := h
                exact se_srt g (ih' _ _ hx) (compE_star hx) hg
              · cases h
            · split at h
              · rename_i e; subst e
                split at h
                · split at h
                  · cases h
                  · rename_i hng2
                    simp only [Bool.or_eq_true, Bool.not_eq_true', not_or, Bool.not_eq_false] at hng2
                    split at h <;> first | (cases h; done) | (rename_i h1 h2; cases h; exact se_isi g (ih' _ _ h1) (compE_star h1) hg h2 hng2.1 hng2.2)
                · cases h
              · cases h
    · split at h
      · cases h
      · rename_i hng
        simp only [Bool.or_eq_true, Bool.not_eq_true', not_or, Bool.not_eq_false] at hng
        split at h
        · rename_i e; subst e
          split at h
          · rename_i e; subst e
            simp only [Option.map_eq_some_iff] at h; obtain ⟨x, hx, rfl⟩ := h
            exact se_srr g (ih' _ _ hx) (compE_star hx) hng.1
          · cases h
        · cases h
    · split at h
      · cases h
      · rename_i hl
        simp only [Bool.not_eq_true', Bool.not_eq_false] at hl
        split at h
        · rename_i hmp
          split at h
          · split at h
            · cases h
            · rename_i hic
              split at h <;> first | (cases h; done) | (rename_i h1 h2; cases h; exact se_mp g hl hmp (ih' _ _ h1) (ih' _ _ h2) (compE_star h2) (by simpa using hic))
          · cases h
        split at h
        · rename_i hm
          split at h
          · cases h
          · rename_i hn
            simp only [Bool.not_eq_true', Bool.not_eq_false] at hn
            split at h
            · rename_i hv
              simp only [Bool.and_eq_true, Bool.or_eq_true, decide_eq_true_eq, beq_iff_eq] at hv
              have vis := vis_of hv.1
              split at h <;> first | (cases h; done) | (rename_i h1 h2; cases h; exact se_chg g ih' hl hm hn vis h1 hv.2 h2)
            · cases h
        · split at h
          · rename_i e; subst e
            split at h
            · simp only [Option.map_eq_some_iff] at h; obtain ⟨x, hx, rfl⟩ := h
              exact se_join g hl (ih' _ _ hx) (compE_star hx)
            · cases h
          · cases h
        · cases h
    · split at h
      · rename_i hb
        split at h
        · rename_i h1 h2 h3
          split at h
          · cases h
          · rename_i hs
            simp only [Bool.not_eq_true', Bool.not_eq_false, List.all_eq_true, List.contains_iff_mem] at hs
            split at h
            · cases h
              exact se_comp g ih hb (compI_set compE_set0 h1) h1 h2 h3 (.inl ⟨rfl, rfl⟩) hs
            · simp only [Option.map_eq_some_iff] at h; obtain ⟨x, hx, rfl⟩ := h
              exact se_comp g ih hb (compI_set compE_set0 h1) h1 h2 h3 (.inr ⟨_, rfl, hx⟩) hs
            · cases h
        · cases h
      · cases h
    · cases h
end
end Itp

namespace Itp
variable [KF]
open PySem PySem.Spec PyProof.Rows
open L2 (V Hp HO upd upd_same upd_ne ne_of ne_of_none Same Cx Inv OpR CallR MtR IxR SlR PSet TruR Room RelV EP VK SqL SqT Dp DpAll It TI TE TA TT TG TGs TS TO PI PE PT PW PA PG PGs PS PSs PO PTs PIE thn Turn FpOk Itl Itt Its Itr Itc Itv Ite Itz Gl Vis Loc Sp FnOk Binds Ends)
theorem PS.imp {X : Cx} {e : Stmt} {t t' : TS} (h : PS X e t) (i : ∀ D σ H, t' D σ H → t D σ H) : PS X e t' := ⟨fun pins s σ H D I q => h.run pins s σ H D I (i _ _ _ q)⟩
theorem PSs.imp {X : Cx} {e : List Stmt} {t t' : TS} (h : PSs X e t) (i : ∀ D σ H, t' D σ H → t D σ H) : PSs X e t' := ⟨fun pins s σ H D I q => h.run pins s σ H D I (i _ _ _ q)⟩
/-! ### the reading of a statement -/
def EnOf (D : Ends) (σ : L2.St) (st : St) (Hs H : Hp) : En where
  nx := fun st' => ∀ σ' H' Hs', Ok σ' st' Hs' H' → Fr σ st Hs H σ' st' Hs' H' → D.nx σ' H'
  bk := fun st' => ∀ σ' H' Hs', Ok σ' st' Hs' H' → Fr σ st Hs H σ' st' Hs' H' → D.bk σ' H'
  ct := fun st' => ∀ σ' H' Hs', Ok σ' st' Hs' H' → Fr σ st Hs H σ' st' Hs' H' → D.ct σ' H'
  rt := fun r st' => ∀ σ' v H' Hs', Ok σ' st' Hs' H' → Fr σ st Hs H σ' st' Hs' H' → RRep σ' st' Hs' H' v r → (∀ a ∈ tmp r v, Own σ st a ∨ H a = none) → D.rt v H'
theorem fresh_back {σ0 σ : L2.St} {st0 st : St} {Hs0 H0 Hs H : Hp} {L : List Addr} (h : ∀ a ∈ L, Own σ st a ∨ H a = none) (f : Fr σ0 st0 Hs0 H0 σ st Hs H) : ∀ a ∈ L, Own σ0 st0 a ∨ H0 a = none := fun a ha => by
  rcases h a ha with z | z
  · exact f.own a z
  · exact .inr (f.dom a z)
theorem EnOf.shift {D : Ends} {σ0 σ : L2.St} {st0 st : St} {Hs0 H0 Hs H : Hp} (f : Fr σ0 st0 Hs0 H0 σ st Hs H) : En.Le (EnOf D σ0 st0 Hs0 H0) (EnOf D σ st Hs H) :=
  ⟨fun s q σ' H' Hs' a b => q σ' H' Hs' a (f.trans b), fun r s q σ' v H' Hs' a b c d => q σ' v H' Hs' a (f.trans b) c (fresh_back d f), fun s q σ' H' Hs' a b => q σ' H' Hs' a (f.trans b), fun s q σ' H' Hs' a b => q σ' H' Hs' a (f.trans b)⟩
def TrS (C : Ct) (b : S) : TS := fun D σ H => ∃ st Hs, Ok σ st Hs H ∧ wpS C b (EnOf D σ st Hs H) st
section
variable {C : Ct} (hC : CtMono C)
include hC
theorem goS {b : S} {D : Ends} {σ0 σ : L2.St} {st0 st : St} {Hs0 H0 Hs H : Hp} (ok : Ok σ st Hs H) (f : Fr σ0 st0 Hs0 H0 σ st Hs H) (w : wpS C b (EnOf D σ0 st0 Hs0 H0) st) : TrS C b D σ H :=
  ⟨st, Hs, ok, wpS_mono hC b _ _ _ (EnOf.shift f) w⟩
end
/-- a def's body is walked -/
structure GS (T : Tab) (k : Nat) (gs : Gs) (N : List Str) (sc : Scope) (X : Cx) : Prop where
  gd : Gd T k gs N sc X
  fn : ∀ x, X.fn x = true
  never : X.xe = fun _ _ => False
  kf : sc.kind = .function
section
variable {T : Tab} {k : Nat} {gs : Gs} {N : List Str} {sc : Scope} {X : Cx}
theorem GS.pass (g : GS T k gs N sc X) : PassesOwn (model X.prog X.w) X.A X.env X.xe := by rw [g.never]; exact PassesOwn.never
theorem GS.nd (g : GS T k gs N sc X) : X.N.Nodup := by rw [g.gd.eqN]; exact g.gd.nd
theorem GS.at (g : GS T k gs N sc X) {x : Str} {i : Nat} (h : ixOf N x = some i) : X.N[i]? = some x := by rw [g.gd.eqN]; exact ixOf_at h
theorem GS.loc (g : GS T k gs N sc X) {x : Str} (h : isLoc sc x = true) : L2.Loc X.env.scope x := by rw [g.gd.eqS]; exact loc_of h
theorem plain_sw {e : Expr} (h : isPlainVal e = true) (tg : Option Expr) (l : Nat) (env : Env) : swapsWith e tg l env = pure false := by
  cases e <;> first | rfl | cases h
theorem sole_sw {e : Expr} (h : isPlainVal e = true) (t : Expr) (l : Nat) (env : Env) : swapsWithSole [t] e l env = pure false := by
  have : swapsWithSole [t] e l env = swapsWith e (some t) l env := by cases e <;> rfl
  rw [this]; exact plain_sw h _ _ _
theorem plain_st {e : Expr} (h : isPlainVal e = true) (t : Expr) (env : Env) : swappedStores [t] e env = pure none := by
  unfold swappedStores
  cases e <;> first | (cases h; done) | (cases t <;> rfl)
theorem sub_st {o i e : Expr} {p : Pos} {env : Env} : swappedStores [.Subscript o i p] e env = pure none := rfl
/-- what a name gets -/
theorem asg_nm {i : Nat} {a : E} {D : Ends} {σ : L2.St} {H : Hp} (h : TrS (call T k) (.asg (.nm i) a) D σ H) : TrE (call T k) a σ H fun x H1 => D.nx (σ.set i (some x)) H1 := by
  have hC := call_mono T k
  obtain ⟨st, Hs, ok, w⟩ := h
  simp only [wpS] at w
  refine bindE hC ok w fun r s1 v H1 Hs1 w ok1 f1 r1 n1 => ?_
  obtain ⟨o, s2, s3, e1, e2, w⟩ := w
  obtain ⟨Hs2, ok2, f2, r2, n2⟩ := take_ok ok1 f1 r1 n1 e1
  obtain ⟨ok3, f3, _⟩ := put_ok ok2 f2 r2 n2 e2
  exact w _ _ _ ok3 f3
theorem ss_asg (g : GS T k gs N sc X) {n : Nat} {x : Str} {px pos : Pos} {e : Expr} {i : Nat} {a : E} (hl : isLoc sc x = true) (hi : ixOf N x = some i) (he : compE N gs n sc e = some a) : PS X (.Assign [.Name x px] e pos) (TrS (call T k) (.asg (.nm i) a)) := by
  have hC := call_mono T k
  have plain : swapsWith e (some (.Name x px)) pos.line X.env = pure false → PS X (.Assign [.Name x px] e pos) (TrS (call T k) (.asg (.nm i) a)) := fun hs =>
    PS.imp (L2.ps_set g.nd (g.at hi) (g.loc hl) (snd_E n sc X g.gd _ _ he).pe hs (.inl (g.fn x))) fun D σ H q => asg_nm q
  by_cases hp : isPlainVal e = true
  · exact plain (plain_sw hp _ _ _)
  · cases e with
    | Tuple es kk p => exact plain rfl
    | SetComp a b c d => cases n <;> simp [compE] at he
    | DictComp a b c d f => cases n <;> simp [compE] at he
    | ListComp elt gens scope p =>
      have sw : swapsWith (.ListComp elt gens scope p) (some (.Name x px)) pos.line X.env = pure (X.env.blockKind == .function && X.env.kindOf x == some .local && px.line == p.line && !(scope.names.any fun (n, k) => n == x && (k == .local || k == .cell))) := rfl
      cases hb : (X.env.blockKind == .function && X.env.kindOf x == some .local && px.line == p.line && !(scope.names.any fun (n, k) => n == x && (k == .local || k == .cell))) with
      | false => exact plain (by rw [sw, hb])
      | true =>
        rw [hb] at sw
        have hxl : X.env.scope.names.lookup x = some .local := by
          simp only [Bool.and_eq_true, beq_iff_eq] at hb
          exact hb.1.1.2
        cases n with
        | zero => simp [compE] at he
        | succ n =>
          have ih := snd_E (T := T) (k := k) (gs := gs) (N := N) n
          unfold compE at he
          split at he <;> first | (rename_i z; cases z; done) | skip
          all_goals first
            | (cases he; done)
            | skip
          rename_i z
          cases z
          have go : ∀ {elt tg it : Expr} {ifs : List Expr} {t : Tg} {s : Src} {as c e : E}, swapsWith (.ListComp elt [⟨tg, it, ifs, 0⟩] scope p) (some (.Name x px)) pos.line X.env = pure true → L2.blkC N sc scope (ownOf N scope) = true →
              compI (compE N gs n sc) sc gs (isTup tg) it = some (s, as) → compTg N scope 8 tg = some t → compE N gs n (L2.relS scope sc) elt = some e → ((ifs = [] ∧ c = .nop) ∨ ∃ cx, ifs = [cx] ∧ compE N gs n (L2.relS scope sc) cx = some c) →
              (∀ j ∈ slots t, j ∈ (ownOf N scope).map (·.2)) → PS X (.Assign [.Name x px] (.ListComp elt [⟨tg, it, ifs, 0⟩] scope p) pos) (TrS (call T k) (.asg (.nm i) (.comp ((ownOf N scope).map (·.2)) t s as c e))) := by
            intro elt tg it ifs t s as c e sw hb h1 h2 h3 h4 h5
            obtain ⟨p1, p2, p3, p4⟩ := lc_parts g.gd ih h1 h2 h3 h4
            have bk : L2.BlkOk X.N X.env.scope scope (ownOf N scope) := by
              rw [g.gd.eqN, g.gd.eqS]
              exact L2.blkOk_by hb
            exact PS.imp (L2.ps_setLc g.gd.calm g.nd (g.at hi) hxl sw p1 bk p2 p3 p4 (fun x => foldSet_of (compI_set compE_set0 h1) _ x)) fun D σ H q => lc_read hC h5 σ H _ (asg_nm q)
          split at he
          · rename_i hbk
            split at he
            · rename_i h1 h2 h3
              split at he
              · cases he
              · rename_i hs
                simp only [Bool.not_eq_true', Bool.not_eq_false, List.all_eq_true, List.contains_iff_mem] at hs
                split at he
                · cases he
                  exact go sw hbk h1 h2 h3 (.inl ⟨rfl, rfl⟩) hs
                · simp only [Option.map_eq_some_iff] at he; obtain ⟨x, hx, rfl⟩ := he
                  exact go sw hbk h1 h2 h3 (.inr ⟨_, rfl, hx⟩) hs
                · cases he
            · cases he
          · cases he
    | _ => exact absurd rfl hp
theorem ss_tup' (g : GS T k gs N sc X) {n : Nat} {ts : List Expr} {kk : Nat} {p pos : Pos} {e : Expr} {t : Tg} {a : E} (hp : swapsWithSole [.Tuple ts kk p] e pos.line X.env = pure false) (hq : swappedStores [.Tuple ts kk p] e X.env = pure none) (ht : compTg N sc 8 (.Tuple ts kk p) = some t) (he : compE N gs n sc e = some a) : PS X (.Assign [.Tuple ts kk p] e pos) (TrS (call T k) (.asg t a)) := by
  have hC := call_mono T k
  have pg := pg_ok g.gd (fun x hx => ⟨hx, .inl (g.fn x)⟩) 8 _ _ ht
  refine PS.imp (L2.ps_asg (snd_E n sc X g.gd _ _ he).pe pg hp hq rfl) fun D σ H q => ?_
  obtain ⟨st, Hs, ok, w⟩ := q
  unfold compTg at ht
  simp only [Option.map_eq_some_iff] at ht
  obtain ⟨t', _, rfl⟩ := ht
  simp only [wpS] at w
  refine bindE hC ok w fun r s1 v H1 Hs1 w ok1 f1 r1 n1 => ?_
  obtain ⟨x, s2, s3, e1, e2, w⟩ := w
  obtain ⟨Hs2, ok2, f2, sh, _, _⟩ := froz_ok (rs := []) (ws := []) ok1 f1 r1 n1 e1 rfl (fun a _ => by simp [tmps])
  exact ⟨s2, Hs2, x, s3, ok2, sh, e2, fun σ' k3 f3 _ => w σ' H1 Hs2 k3 (f2.trans f3)⟩
theorem ss_tup (g : GS T k gs N sc X) {n : Nat} {ts : List Expr} {kk : Nat} {p pos : Pos} {e : Expr} {t : Tg} {a : E} (hp : isPlainVal e = true) (ht : compTg N sc 8 (.Tuple ts kk p) = some t) (he : compE N gs n sc e = some a) : PS X (.Assign [.Tuple ts kk p] e pos) (TrS (call T k) (.asg t a)) :=
  ss_tup' g (sole_sw hp _ _ _) (plain_st hp _ _) ht he
theorem tup_star {N : List Str} {gs : Gs} {n : Nat} {sc : Scope} {a b : Expr} {kt : Nat} {p : Pos} {e : E} (h : compE N gs n sc (.Tuple [a, b] kt p) = some e) : (∀ u p, a ≠ .Starred u p) ∧ (∀ u p, b ≠ .Starred u p) := by
  cases n with
  | zero => simp [compE] at h
  | succ n =>
    simp only [compE, compAll, Option.map_eq_some_iff] at h
    obtain ⟨z, h, _⟩ := h
    cases ha : compE N gs n sc a with
    | none => rw [ha] at h; cases h
    | some x =>
      cases hb : compE N gs n sc b with
      | none => rw [ha, hb] at h; cases h
      | some y => exact ⟨compE_star ha, compE_star hb⟩
/-- stores in their order: a name that a block within reads -/
theorem stores_cell {x y : Str} {px py pt p2 : Pos} {kt k2 : Nat} {a b : Expr} {env : Env} (h : env.scope.names.lookup x = some .cell ∨ env.scope.names.lookup y = some .cell) (h3 : ∀ u p, a ≠ .Starred u p) (h4 : ∀ u p, b ≠ .Starred u p) : swappedStores [.Tuple [.Name x px, .Name y py] kt pt] (.Tuple [a, b] k2 p2) env = pure none := by
  unfold swappedStores
  simp only []
  by_cases hb : env.blockKind != .function
  · rw [if_pos (by simp [hb])]
  · rw [if_neg (by simpa using hb), if_neg (by
      intro z
      simp only [List.any_cons, List.any_nil, Bool.or_false, Bool.or_eq_true] at z
      rcases z with z | z <;> (split at z <;> first | exact h3 _ _ rfl | exact h4 _ _ rfl | cases z))]
    refine if_pos ?_
    have : ∀ z : Str, env.scope.names.lookup z = some .cell → env.kindOf z = some .cell := fun z h => h
    rcases h with h | h
    · simp only [List.filterMap_cons, this _ h]
      cases hy : (env.kindOf y == some .local && py.line == ([Expr.Name x px, Expr.Name y py].head?.map (·.pos.line)).getD 0) <;> simp [hy]
    · simp only [List.filterMap_cons, this _ h]
      cases hy : (env.kindOf x == some .local && px.line == ([Expr.Name x px, Expr.Name y py].head?.map (·.pos.line)).getD 0) <;> simp [hy]
/-- constants: unpacked, and stored in their order -/
theorem stores_fold {x y : Str} {px py pt p2 : Pos} {kt k2 : Nat} {a b : Expr} {env : Env} (h : [a, b].all (foldedForSure 8) = true) (h3 : ∀ u p, a ≠ .Starred u p) (h4 : ∀ u p, b ≠ .Starred u p) : swappedStores [.Tuple [.Name x px, .Name y py] kt pt] (.Tuple [a, b] k2 p2) env = pure none := by
  unfold swappedStores
  simp only []
  by_cases hb : env.blockKind != .function
  · rw [if_pos (by simp [hb])]
  · rw [if_neg (by simpa using hb), if_neg (by
      intro z
      simp only [List.any_cons, List.any_nil, Bool.or_false, Bool.or_eq_true] at z
      rcases z with z | z <;> (split at z <;> first | exact h3 _ _ rfl | exact h4 _ _ rfl | cases z))]
    split <;> first | rfl | (rw [if_pos h])
/-- what a name will get, others beside it -/
theorem take_okA {σ σ0 : L2.St} {st st0 st1 : St} {Hs H Hs0 H0 : Hp} {v : V} {r : R} {o : O} {rs : List R} {ws : List V} (k : Ok σ st Hs H) (f : Fr σ0 st0 Hs0 H0 σ st Hs H) (h : RRep σ st Hs H v r) (fr : ∀ a ∈ tmp r v, Own σ0 st0 a ∨ H0 a = none) (e : take r st = some (o, st1))
    (ra : RA σ st Hs H rs ws) (ap : ∀ a ∈ tmp r v, a ∉ tmps rs ws) : ∃ Hs1, Ok σ st1 Hs1 H ∧ Fr σ0 st0 Hs0 H0 σ st1 Hs1 H ∧ RRep σ st1 Hs1 H v (.v o) ∧ (∀ a ∈ tmp (.v o) v, a ∈ tmp r v) ∧ RA σ st1 Hs1 H rs ws := by
  cases r with
  | v o' =>
    cases o' with
    | d y =>
      simp only [take, Option.some.injEq, Prod.mk.injEq] at e
      obtain ⟨rfl, rfl⟩ := e
      exact ⟨Hs, k, f, h, fun a z => z, ra⟩
    | k p xs => simp [take] at e
    | l p xs =>
      simp only [take, Option.some.injEq, Prod.mk.injEq] at e
      obtain ⟨rfl, rfl⟩ := e
      obtain ⟨b, vs, rfl, q⟩ := h
      exact ⟨Hs, k, f, ⟨b, vs, rfl, q⟩, fun a z => z, ra⟩
  | r i =>
    simp only [take] at e
    cases e1 : froz (.r i) st with
    | none => rw [e1] at e; cases e
    | some z =>
      obtain ⟨x, s1⟩ := z
      rw [e1] at e
      cases e
      obtain ⟨Hs1, k1, f1, sh, ra1, _⟩ := froz_ok k f h fr e1 ra ap
      exact ⟨Hs1, k1, f1, sh, fun a z => by simp [tmp] at z, ra1⟩
theorem stores_two {x y : Str} {px py pt p2 : Pos} {kt k2 : Nat} {a b : Expr} {env : Env} (hk : env.scope.kind = .function) (hx : env.scope.names.lookup x = some .local) (hy : env.scope.names.lookup y = some .local) (hp : (px.line == py.line) = true) (hn : (x == y) = false)
    (h1 : [a, b].all (foldedForSure 8) = false) (h2 : [a, b].all (constantsAlone 8) = false) (h3 : ∀ u p, a ≠ .Starred u p) (h4 : ∀ u p, b ≠ .Starred u p) : swappedStores [.Tuple [.Name x px, .Name y py] kt pt] (.Tuple [a, b] k2 p2) env = pure (some [x, y]) := by
  have hb : env.blockKind = .function := by unfold Env.blockKind; rw [hk]; rfl
  have kx : env.kindOf x = some .local := hx
  have ky : env.kindOf y = some .local := hy
  have hp' : (py.line == px.line) = true := by rw [beq_iff_eq] at hp ⊢; exact hp.symm
  have hn' : (y == x) = false := by rw [beq_eq_false_iff_ne] at hn ⊢; exact fun z => hn z.symm
  have ed : [x, y].eraseDups = [x, y] := by
    simp [List.eraseDups_cons, hn']
  unfold swappedStores
  simp only [hb]
  rw [if_neg (by simp), if_neg (by
    intro z
    simp only [List.any_cons, List.any_nil, Bool.or_false, Bool.or_eq_true] at z
    rcases z with z | z <;> (split at z <;> first | exact h3 _ _ rfl | exact h4 _ _ rfl | cases z))]
  simp only [List.filterMap_cons, kx, ky, List.head?_cons, Option.map_some, Option.getD_some, Expr.pos, hp']
  simp [ed, h1, h2]
/-- a, b = x, y -/
theorem ss_par (g : GS T k gs N sc X) {n : Nat} {x y : Str} {px py pt p2 pos : Pos} {kt k2 : Nat} {a b : Expr} {i j : Nat} {u v : E} (hx : sc.names.lookup x = some .local) (hy : sc.names.lookup y = some .local) (hp : (px.line == py.line) = true) (hn : (x == y) = false)
    (h1 : [a, b].all (foldedForSure 8) = false) (h2 : [a, b].all (constantsAlone 8) = false) (hi : ixOf N x = some i) (hj : ixOf N y = some j) (ha : compE N gs n sc a = some u) (hb : compE N gs n sc b = some v) :
    PS X (.Assign [.Tuple [.Name x px, .Name y py] kt pt] (.Tuple [a, b] k2 p2) pos) (TrS (call T k) (.par i j u v)) := by
  have hC := call_mono T k
  have hij : i ≠ j := fun z => by
    subst z
    have := ixOf_at hi
    rw [ixOf_at hj] at this
    cases this
    simp at hn
  have pa : PA X [a, b] (TrA (call T k) (.cons u (.cons v .nil))) := snd_A (snd_E n sc X g.gd) (by simp only [compAll, ha, hb])
  refine PS.imp (L2.ps_par g.gd.calm g.nd (g.at hi) (g.at hj) hij (by rw [g.gd.eqS]; exact hx) (by rw [g.gd.eqS]; exact hy) pa
    (stores_two (by rw [g.gd.eqS]; exact g.kf) (by rw [g.gd.eqS]; exact hx) (by rw [g.gd.eqS]; exact hy) hp hn h1 h2 (compE_star ha) (compE_star hb)) rfl) fun D σ H q => ?_
  obtain ⟨st, Hs, ok, w⟩ := q
  simp only [wpS] at w
  refine ⟨st, Hs, ok, ?_⟩
  simp only [wpA]
  refine wpE_mono hC w fun ra s1 w => wpE_mono hC w fun rb s2 w => ?_
  intro vs H2 Hs2 ok2 f2 r2 n2
  obtain ⟨v1, ws, rfl, r1, t, d1⟩ := r2
  obtain ⟨v2, ws, rfl, r3, t, d2⟩ := t
  cases (show ws = [] from t)
  obtain ⟨dx, dy, s3, s4, e1, e2, s5, s6, e3, e4, w⟩ := w
  have na : ∀ a ∈ tmp ra v1, Own σ st a ∨ H a = none := fun a ha => n2 a (by simp [tmps, ha])
  have nb : ∀ a ∈ tmp rb v2, Own σ st a ∨ H a = none := fun a ha => n2 a (by simp [tmps, ha])
  obtain ⟨Hs3, ok3, f3, r4, t4, ra3⟩ := take_okA (rs := [rb]) (ws := [v2]) ok2 f2 r1 na e1 ⟨v2, [], rfl, r3, rfl, fun a _ => by simp [tmps]⟩ d1
  obtain ⟨v2', ws', e5, r5, _, _⟩ := ra3
  cases e5
  have d4 : ∀ a ∈ tmp rb v2, a ∉ tmps [.v dx] [v1] := fun a ha z => by
    have z' : a ∈ tmp (.v dx) v1 := by simpa [tmps] using z
    exact d1 a (t4 a z') (by simpa [tmps] using ha)
  obtain ⟨Hs4, ok4, f4, r6, t6, ra4⟩ := take_okA (rs := [.v dx]) (ws := [v1]) ok3 f3 r5 nb e2 ⟨v1, [], rfl, r4, rfl, fun a _ => by simp [tmps]⟩ d4
  obtain ⟨v1', ws', e5, r7, _, _⟩ := ra4
  cases e5
  obtain ⟨ok5, f5, _⟩ := put_ok (v := v1) ok4 f4 r7 (fun a ha => na a (t4 a ha)) e3
  have e3' := put_len e3
  have r8 : RRep (σ.set i (some v1)) s5 Hs4 H2 v2 (.v dy) := by
    cases dy with
    | d y => exact r6
    | k p xs => exact r6
    | l p xs =>
      obtain ⟨b, vs, rfl, h1, h2, h3, h4⟩ := r6
      refine ⟨b, vs, rfl, h1, h2, h3, fun z => ?_⟩
      obtain ⟨m, o, q1, q2, q3⟩ := z
      rw [e3'] at q1
      by_cases hm : m = i
      · subst hm
        have hl : m < s4.length := by
          rw [List.getElem?_set_self'] at q1
          cases q : s4[m]? with
          | none => rw [q] at q1; cases q1
          | some _ => exact (List.getElem?_eq_some_iff.mp q).1
        have hs : m < σ.length := by rw [← ok4.len]; exact hl
        rw [List.getElem?_set_self hl] at q1
        rw [List.getElem?_set_self hs] at q3
        simp only [Option.some.injEq] at q1 q3
        subst q1 q3
        cases dx with
        | d x => cases q2
        | k p' xs' => exact r7.elim
        | l p' xs' => exact d4 b (t6 b (by simp [tmp])) (by simp [tmps, tmp])
      · rw [List.getElem?_set_ne (fun z => hm z.symm)] at q1 q3
        exact h4 ⟨m, o, q1, q2, q3⟩
  obtain ⟨ok6, f6, _⟩ := put_ok (v := v2) ok5 f5 r8 (fun a ha => nb a (t6 a ha)) e4
  exact ⟨v1, v2, rfl, w _ _ _ ok6 f6⟩
/-- o[i] = e -/
theorem ss_set (g : GS T k gs N sc X) {n : Nat} {x : Str} {px p pos : Pos} {ie e : Expr} {o : Nat} {a b : E} (hp : isPlainVal e = true ∨ isTup e = true) (hs : isSlice ie = false) (hn : nameOk x = true) (hv : isLoc sc x = true ∨ sc.names.lookup x = some .free) (hi : ixOf N x = some o)
    (ha : compE N gs n sc ie = some a) (hb : compE N gs n sc e = some b) : PS X (.Assign [.Subscript (.Name x px) ie p] e pos) (TrS (call T k) (.set o a b)) := by
  have hC := call_mono T k
  obtain ⟨n1, n2, n3⟩ := nameOk_of hn
  have pv : PE X (.Name x px) (L2.tVar o) := L2.pe_var (g.at hi) (g.gd.vis (vis_of hv)) n1 n2
  have hsw : swapsWithSole [.Subscript (.Name x px) ie p] e pos.line X.env = pure false := by
    rcases hp with hp | hp
    · exact sole_sw hp _ _ _
    · cases e <;> first | rfl | cases hp
  refine PS.imp (L2.ps_asg (snd_E n sc X g.gd _ _ hb).pe (L2.pg_sub pv (snd_E n sc X g.gd _ _ ha).pe L2.set_list (by
    intro v
    cases ie <;> first | rfl | cases hs)) hsw sub_st rfl) fun D σ H q => ?_
  obtain ⟨st, Hs, ok, w⟩ := q
  simp only [wpS] at w
  refine bindE hC ok w fun r s1 v H1 Hs1 w ok1 f1 r1 n1 => ?_
  obtain ⟨⟨p0, xs0, e0⟩, w⟩ := w
  obtain ⟨ov, eo, _⟩ := ok1.rep o _ e0
  refine ⟨ov, eo, bindE hC ok1 w fun ri s2 iv H2 Hs2 w ok2 f2 r2 n2 => ?_⟩
  obtain ⟨dx, s3, ef, kk, p', xs, j, e1, e2, e3, w⟩ := w
  have dj : ∀ a ∈ tmp r v, a ∉ tmps [ri] [iv] := fun a ha => by
    obtain ⟨⟨us, q⟩, _, q2⟩ := tmp_at r1 ha
    intro z
    rcases n2 a (by simpa [tmps] using z) with z | z
    · exact q2 z.hel
    · rw [q] at z; cases z
  obtain ⟨Hs3, ok3, f3, sh, ra, _⟩ := froz_ok (rs := [ri]) (ws := [iv]) ok2 (f1.trans f2) (r1.lift f2) (fun a ha => n1 a ha) ef ⟨iv, [], rfl, r2, rfl, fun a _ => by simp [tmps]⟩ dj
  obtain ⟨iv', ws', e5, r4, _, _⟩ := ra
  cases e5
  cases (show iv = _ from ok3.view r4 e1)
  obtain ⟨b, us, rfl, h1, h2, h3⟩ := ok3.lst_at e2 eo
  obtain ⟨ok4, f4⟩ := ok3.chg e2 eo h1 (h2.set j sh)
  exact ⟨b, us, kk, j, rfl, rfl, h1, by rw [← h2.len]; exact e3, w _ _ _ ok4 (f3.trans f4)⟩
/-- x op= e -/
theorem ss_aug (g : GS T k gs N sc X) {n : Nat} {x : Str} {px pos : Pos} {e : Expr} {op : Operator} {i : Nat} {a : E} (hl : isLoc sc x = true) (hi : ixOf N x = some i) (he : compE N gs n sc e = some a) : PS X (.AugAssign (.Name x px) op e pos) (TrS (call T k) (.aug i op a)) := by
  have hC := call_mono T k
  refine PS.imp (L2.ps_aug g.nd (g.at hi) (g.loc hl) (snd_E n sc X g.gd _ _ he).pe (iop_R (op := op)) (.inl (g.fn x))) fun D σ H q => ?_
  obtain ⟨st, Hs, ok, w⟩ := q
  simp only [wpS] at w
  obtain ⟨dx, e0, w⟩ := w
  obtain ⟨v0, ev, rp⟩ := ok.rep i _ e0
  refine ⟨v0, ev, bindE hC ok w fun r s1 v H1 Hs1 w ok1 f1 r1 n1 => ?_⟩
  obtain ⟨dy, e1, w⟩ := w
  refine ⟨Hs1, dx, dy, ok1.sub, RV.of_sh ok1.sub (Sh.mono f1.sub rp), ok1.view r1 e1, iop_mono (fun z w v' H' Hs' gr => ?_) w⟩
  obtain ⟨ok2, f2, r2, n2⟩ := ok1.grow gr
  obtain ⟨s2, e2, w⟩ := w
  obtain ⟨ok3, f3, _⟩ := put_ok ok2 (f1.trans f2) r2 (n2.back f1) e2
  exact w _ _ _ ok3 f3
/-- o[i] op= e -/
theorem ss_augs (g : GS T k gs N sc X) {n : Nat} {x : Str} {px p pos : Pos} {ie e : Expr} {op : Operator} {o : Nat} {a b : E} (hs : isSlice ie = false) (hn : nameOk x = true) (hv : isLoc sc x = true ∨ sc.names.lookup x = some .free) (hi : ixOf N x = some o)
    (ha : compE N gs n sc ie = some a) (hb : compE N gs n sc e = some b) : PS X (.AugAssign (.Subscript (.Name x px) ie p) op e pos) (TrS (call T k) (.augs o a op b)) := by
  have hC := call_mono T k
  obtain ⟨n1, n2, n3⟩ := nameOk_of hn
  have pv : PE X (.Name x px) (L2.tVar o) := L2.pe_var (g.at hi) (g.gd.vis (vis_of hv)) n1 n2
  refine PS.imp (L2.ps_augS pv (snd_E n sc X g.gd _ _ ha).pe (get_list (X := X)) (snd_E n sc X g.gd _ _ hb).pe (iop_R (op := op)) L2.set_list (by
    intro ov iv new
    cases ie <;> first | rfl | cases hs)) fun D σ H q => ?_
  obtain ⟨st, Hs, ok, w⟩ := q
  simp only [wpS] at w
  obtain ⟨⟨p0, xs0, e0⟩, w⟩ := w
  obtain ⟨ov, eo, _⟩ := ok.rep o _ e0
  refine ⟨ov, eo, bindE hC ok w fun ri s1 iv H1 Hs1 w ok1 f1 r1 n1 => ?_⟩
  obtain ⟨kk, p', xs, x', e1, e2, e3, w⟩ := w
  cases (show iv = _ from ok1.view r1 e1)
  obtain ⟨b1, us, rfl, h1, h2, h3⟩ := ok1.lst_at e2 eo
  obtain ⟨xv, e4, shx⟩ := atI_sh h2 e3
  refine ⟨b1, us, kk, xv, rfl, rfl, SqL.of h1, e4, bindE hC ok1 w fun r s2 v H2 Hs2 w ok2 f2 r2 n2 => ?_⟩
  obtain ⟨dy, e5, w⟩ := w
  refine ⟨Hs2, x', dy, ok2.sub, RV.of_sh ok2.sub (Sh.mono f2.sub shx), ok2.view r2 e5, iop_mono (fun z w v' H' Hs' gr => ?_) w⟩
  obtain ⟨ok3, f3, r3, n3⟩ := ok2.grow gr
  obtain ⟨w', p2, ys, j, rfl, e6, e7, w⟩ := w
  obtain ⟨b2, us2, eb, g1, g2, g3⟩ := ok3.lst_at e6 eo
  cases eb
  obtain ⟨ok4, f4⟩ := ok3.chg e6 eo g1 (g2.set j r3)
  exact ⟨b1, us2, kk, j, rfl, rfl, g1, by rw [← g2.len]; exact e7, w _ _ _ ok4 (((f1.trans f2).trans f3).trans f4)⟩
end
end Itp

namespace Itp
variable [KF]
open PySem PySem.Spec PyProof.Rows
open L2 (V Hp HO upd upd_same upd_ne ne_of ne_of_none Same Cx Inv OpR CallR MtR IxR SlR PSet TruR Room RelV EP VK SqL SqT Dp DpAll It TI TE TA TT TG TGs TS TO PI PE PT PW PA PG PGs PS PSs PO PTs PIE thn Turn FpOk Itl Itt Its Itr Itc Itv Ite Itz Gl Vis Loc Sp FnOk Binds Ends)
section
variable {T : Tab} {k : Nat} {gs : Gs} {N : List Str} {sc : Scope} {X : Cx}
theorem ss_for (g : GS T k gs N sc X) {n : Nat} {tg it : Expr} {b : List Stmt} {pos : Pos} {s : Src} {as : E} {t : Tg} {y : S} (h1 : compI (compE N gs n sc) sc gs (isTup tg) it = some (s, as)) (h2 : compTg N sc 8 tg = some t) (hb : PSs X b (TrS (call T k) y)) :
    PS X (.For tg it b [] pos) (TrS (call T k) (.for_ t s as y)) := by
  have hC := call_mono T k
  have pg := pg_ok g.gd (fun x hx => ⟨hx, .inl (g.fn x)⟩) 8 _ _ h2
  refine PS.imp (L2.ps_for g.pass g.gd.calm (snd_I g.gd (snd_E n sc X g.gd) h1) pg hb (fun x => foldSet_of (compI_set compE_set0 h1) _ x)) fun EE σ H q => ?_
  obtain ⟨st, Hs, ok, w⟩ := q
  simp only [wpS] at w
  refine ⟨st, Hs, ok, wpA_mono hC w fun rs s1 w vs H1 Hs1 ok1 f1 r1 n1 => ?_⟩
  obtain ⟨ds, ev, w⟩ := w
  have nf := items_frz w
  refine ⟨ds, ev, items_mono (fun xs w J wl => ?_) w⟩
  have hL : ∀ i ∈ lent rs s1, ∃ p xs, s1[i]? = some (some (.l p xs)) := fun i hi => lent_at hi
  have okL := ok1.lock (lent rs s1)
  have src : ∀ a, V.ref a ∈ vs → ¬ Own σ (Itp.lock (lent rs s1) s1) a := fun a ha => src_free ok1 r1 ev nf ha
  have ownL : ∀ a, Own σ (Itp.lock (lent rs s1) s1) a → Own σ s1 a := fun a ⟨i, p, xs, q1, q2⟩ => by
    rcases lock_cases q1 with ⟨q, _⟩ | ⟨_, p', xs', q, z⟩
    · exact ⟨i, p, xs, q, q2⟩
    · cases z
  -- behind the loop
  have out : ∀ {s' : St} {σ' : L2.St} {Hs' H' : Hp}, Ok σ' s' Hs' H' → Fr σ (Itp.lock (lent rs s1) s1) Hs1 H1 σ' s' Hs' H' → Ok σ' (Itp.unlock (lent rs s1) s') Hs' H' ∧ Fr σ st Hs H σ' (Itp.unlock (lent rs s1) s') Hs' H' := by
    intro s' σ' Hs' H' k' f'
    obtain ⟨a, b⟩ := unlock_ok hL ok1 f' k'
    exact ⟨a, f1.trans b⟩
  let F : List D → St → Prop := fun xs s => forL t (fun D s => wpS (call T k) y D s) (Itp.unlock (lent rs s1)) (EnOf EE σ st Hs H) xs s
  refine ⟨fun i m σ' H' => m = xs.length - i ∧ i ≤ xs.length ∧ ∃ s' Hs', Ok σ' s' Hs' H' ∧ Fr σ (Itp.lock (lent rs s1) s1) Hs1 H1 σ' s' Hs' H' ∧ F (xs.drop i) s', ⟨xs.length, by simp, Nat.zero_le _, _, Hs1, okL, Fr.refl, w⟩, ?_⟩
  rintro i m σ' H' ⟨rfl, hi, s', Hs', k', f', w⟩
  have held : Held vs H1 H' := fun a o ha e => f'.keep a o e (src a ha)
  by_cases hlt : i < xs.length
  · refine .inr ⟨wl.goes i H' hlt held, fun σ' H' => ∃ s' Hs', Ok σ' s' Hs' H' ∧ Fr σ (Itp.lock (lent rs s1) s1) Hs1 H1 σ' s' Hs' H' ∧ F (xs.drop (i + 1)) s', fun σ'' H'' ⟨s'', Hs'', a, b, c⟩ => ⟨xs.length - (i + 1), by omega, rfl, hlt, s'', Hs'', a, b, c⟩, fun x H2 yl => ?_⟩
    have w' : F (xs[i] :: xs.drop (i + 1)) s' := by rw [← List.drop_eq_getElem_cons hlt]; exact w
    obtain ⟨s2, es, w'⟩ := w'
    obtain ⟨Hs2, sh, k2, f2⟩ := yld_ok wl k' f'.sub held (List.getElem?_eq_getElem hlt) yl
    refine ⟨s', Hs2, xs[i], s2, k2, sh, es, fun σ2 k3 f3 _ => ?_⟩
    have f4 := (f'.trans f2).trans f3
    refine ⟨s2, Hs2, k3, ?_⟩
    refine wpS_mono hC y _ _ _ ?_ w'
    refine ⟨fun s3 q σ3 H3 Hs3 k4 f5 => ⟨s3, Hs3, k4, f4.trans f5, q⟩, fun r s3 q σ3 v H3 Hs3 k4 f5 r5 n5 => ?_, fun s3 q σ3 H3 Hs3 k4 f5 => ?_, fun s3 q σ3 H3 Hs3 k4 f5 => ⟨s3, Hs3, k4, f4.trans f5, q⟩⟩
    · obtain ⟨a, b⟩ := out k4 (f4.trans f5)
      refine q σ3 v H3 Hs3 a b (RRep.unlock r5) (fresh_back ?_ f1)
      intro a ha
      rcases fresh_back n5 f4 a ha with z | z
      · exact .inl (ownL a z)
      · exact .inr z
    · obtain ⟨a, b⟩ := out k4 (f4.trans f5)
      exact q σ3 H3 Hs3 a b
  · have e : i = xs.length := by omega
    subst e
    have w' : F [] s' := by rw [← List.drop_length (l := xs)]; exact w
    obtain ⟨a, b⟩ := out k' f'
    exact .inl ⟨wl.stops H' held, w' σ' H' Hs' a b⟩
theorem ss_while (g : GS T k gs N sc X) {n : Nat} {c : Expr} {b : List Stmt} {pos : Pos} {x : E} {y : S} (hc : compE N gs n sc c = some x) (hb : PSs X b (TrS (call T k) y)) : PS X (.While c b [] pos) (TrS (call T k) (.while_ x y)) := by
  have hC := call_mono T k
  refine PS.imp (L2.ps_while g.pass (snd_E n sc X g.gd _ _ hc).pt hb) fun D σ H q => ?_
  obtain ⟨st, Hs, ok, w⟩ := q
  simp only [wpS] at w
  obtain ⟨W, ⟨m0, w0⟩, turn⟩ := w
  refine ⟨fun m σ' H' => ∃ s' Hs', Ok σ' s' Hs' H' ∧ Fr σ st Hs H σ' s' Hs' H' ∧ W m s', ⟨m0, st, Hs, ok, Fr.refl, w0⟩, ?_⟩
  rintro m σ' H' ⟨s', Hs', k', f', w⟩
  refine bindT hC k' (turn m s' w) fun bb s1 H1 Hs1 w ok1 f1 => ?_
  cases bb with
  | false => exact w σ' H1 Hs1 ok1 (f'.trans f1)
  | true =>
    refine ⟨fun σ2 H2 => ∃ m', m' < m ∧ ∃ s2 Hs2, Ok σ2 s2 Hs2 H2 ∧ Fr σ st Hs H σ2 s2 Hs2 H2 ∧ W m' s2, fun σ2 H2 q => q, s1, Hs1, ok1, ?_⟩
    have f2 := f'.trans f1
    refine wpS_mono hC y _ _ _ ?_ w
    refine ⟨fun s3 q σ3 H3 Hs3 k4 f5 => ?_, fun r s3 q σ3 v H3 Hs3 k4 f5 r5 n5 => q σ3 v H3 Hs3 k4 (f2.trans f5) r5 (fresh_back n5 f2), fun s3 q σ3 H3 Hs3 k4 f5 => q σ3 H3 Hs3 k4 (f2.trans f5), fun s3 q σ3 H3 Hs3 k4 f5 => ?_⟩
    · obtain ⟨m', l, q⟩ := q
      exact ⟨m', l, s3, Hs3, k4, f2.trans f5, q⟩
    · obtain ⟨m', l, q⟩ := q
      exact ⟨m', l, s3, Hs3, k4, f2.trans f5, q⟩
/-- stored and shared at once -/
theorem ss_asgd {st : Stmt} {i : Nat} {a : E} (h : PS X st (TrS (call T k) (.asg (.nm i) a))) : PS X st (TrS (call T k) (.asgd i a)) := by
  have hC := call_mono T k
  refine PS.imp h fun D σ H q => ?_
  obtain ⟨st, Hs, ok, w⟩ := q
  refine ⟨st, Hs, ok, ?_⟩
  simp only [wpS] at w ⊢
  refine wpE_mono hC w fun r s1 w => ?_
  obtain ⟨x, s2, s3, e1, e2, q⟩ := w
  cases r with
  | r j => exact ⟨.d x, s2, s3, by simp only [take]; rw [e1], e2, q⟩
  | v o =>
    cases o with
    | d y =>
      simp only [froz, Option.some.injEq, Prod.mk.injEq] at e1
      obtain ⟨rfl, rfl⟩ := e1
      exact ⟨.d y, s1, s3, rfl, e2, q⟩
    | k p xs => simp [froz] at e1
    | l p xs =>
      simp only [froz, Option.some.injEq, Prod.mk.injEq] at e1
      obtain ⟨rfl, rfl⟩ := e1
      have e3 : s3 = s1.set i (some (.d (.lst xs))) := by
        unfold put at e2
        split at e2 <;> first | (cases e2; rfl) | cases e2
      have hi : i < s1.length := by
        unfold put at e2
        cases z : s1[i]? with
        | none => rw [z] at e2; cases e2
        | some z' => exact (List.getElem?_eq_some_iff.mp z).1
      refine ⟨.l false xs, s1, s1.set i (some (.l false xs)), rfl, ?_, fun σ' H' Hs' k' f' => ?_⟩
      · unfold put at e2 ⊢
        split at e2 <;> first | rfl | cases e2
      · have q1 : (s1.set i (some (.l false xs)))[i]? = some (some (.l false xs)) := by simp [hi]
        obtain ⟨v, ev, _⟩ := k'.rep i _ q1
        obtain ⟨Hs1, k1, f1, _⟩ := k'.share q1 ev
        rw [List.set_set] at k1 f1
        rw [← e3] at k1 f1
        exact q σ' H' Hs1 k1 (f'.trans f1)
/-- suites -/
theorem sss {f : Stmt → Option S} (ih : ∀ st b, f st = some b → PS X st (TrS (call T k) b)) : ∀ {ss : List Stmt} {b : S}, compSs f ss = some b → PSs X ss (TrS (call T k) b)
  | [], b, h => by
    simp only [compSs, Option.some.injEq] at h
    subst h
    refine PSs.imp L2.pss_nil fun D σ H q => ?_
    obtain ⟨st, Hs, ok, w⟩ := q
    simp only [wpS] at w
    exact w σ H Hs ok Fr.refl
  | [s], b, h => by
    simp only [compSs] at h
    exact L2.pss_one (ih _ _ h)
  | s :: s2 :: ss, b, h => by
    have hC := call_mono T k
    unfold compSs at h
    split at h
    · rename_i x y h1 h2
      cases h
      refine PSs.imp (L2.pss_cons (ih _ _ h1) (sss ih h2)) fun D σ H q => ?_
      obtain ⟨st, Hs, ok, w⟩ := q
      simp only [wpS] at w
      refine ⟨st, Hs, ok, ?_⟩
      refine wpS_mono hC _ _ _ _ ?_ w
      exact ⟨fun s3 q σ3 H3 Hs3 k4 f5 => goS hC k4 f5 q, fun r s q => q, fun s q => q, fun s q => q⟩
    · cases h
theorem pl_of {e : Expr} (h : isPlainVal e = false → isTup e = true) : isPlainVal e = true ∨ isTup e = true := by
  cases q : isPlainVal e with
  | true => exact .inl rfl
  | false => exact .inr (h q)
/-- a statement's core is sound -/
theorem snd_S (g : GS T k gs N sc X) : ∀ (n : Nat) (st : Stmt) (b : S), compS N gs sc n st = some b → PS X st (TrS (call T k) b)
  | 0, st, b, h => by simp [compS] at h
  | n + 1, st, b, h => by
    have hC := call_mono T k
    have ih := snd_S g n
    unfold compS at h
    split at h
    · cases h
      refine PS.imp L2.ps_pass fun D σ H q => ?_
      obtain ⟨st, Hs, ok, w⟩ := q
      simp only [wpS] at w
      exact w σ H Hs ok Fr.refl
    · cases h
      refine PS.imp L2.ps_never fun D σ H q => ?_
      obtain ⟨st, Hs, ok, w⟩ := q
      simp only [wpS] at w
    · cases h
      refine PS.imp L2.ps_break fun D σ H q => ?_
      obtain ⟨st, Hs, ok, w⟩ := q
      simp only [wpS] at w
      exact w σ H Hs ok Fr.refl
    · cases h
      refine PS.imp L2.ps_continue fun D σ H q => ?_
      obtain ⟨st, Hs, ok, w⟩ := q
      simp only [wpS] at w
      exact w σ H Hs ok Fr.refl
    · cases h
      refine PS.imp L2.ps_retN fun D σ H q => ?_
      obtain ⟨st, Hs, ok, w⟩ := q
      simp only [wpS] at w
      exact w σ .non H Hs ok Fr.refl rfl fun a ha => by simp [tmp] at ha
    · simp only [Option.map_eq_some_iff] at h; obtain ⟨x, hx, rfl⟩ := h
      refine PS.imp (L2.ps_ret (snd_E n sc X g.gd _ _ hx).pe) fun D σ H q => ?_
      obtain ⟨st, Hs, ok, w⟩ := q
      simp only [wpS] at w
      exact bindE hC ok w fun r s1 v H1 Hs1 w ok1 f1 r1 n1 => w σ v H1 Hs1 ok1 f1 r1 n1
    · split at h
      · rename_i hp
        simp only [Option.map_eq_some_iff] at h; obtain ⟨x, hx, rfl⟩ := h
        refine PS.imp (L2.ps_expr (snd_E n sc X g.gd _ _ hx).pe (plain_sw hp _ _ _)) fun D σ H q => ?_
        obtain ⟨st, Hs, ok, w⟩ := q
        simp only [wpS] at w
        exact bindE hC ok w fun r s1 v H1 Hs1 w ok1 f1 r1 n1 => w σ H1 Hs1 ok1 f1
      · cases h
    · split at h
      · rename_i h1 h2 h3
        cases h
        refine PS.imp (L2.ps_if (snd_E n sc X g.gd _ _ h1).pt (sss ih h2) (sss ih h3)) fun D σ H q => ?_
        obtain ⟨st, Hs, ok, w⟩ := q
        simp only [wpS] at w
        refine bindT hC ok w fun c s1 H1 Hs1 w ok1 f1 => ?_
        cases c with
        | true => exact goS hC ok1 f1 w
        | false => exact goS hC ok1 f1 w
      · cases h
    · split at h
      · rename_i h1 h2
        cases h
        exact ss_while g h1 (sss ih h2)
      · cases h
    · split at h
      · rename_i h1 h2 h3
        cases h
        exact ss_for g h1 h2 (sss ih h3)
      · cases h
    · split at h
      · cases h
      · rename_i hl
        simp only [Bool.not_eq_true', Bool.not_eq_false] at hl
        split at h
        · rename_i h1 h2
          split at h
          · cases h
            exact ss_asgd (ss_asg g hl h1 h2)
          · cases h
            exact ss_asg g hl h1 h2
        · cases h
    · split at h
      · split at h
        · rename_i hc
          simp only [Bool.and_eq_true, beq_iff_eq, Bool.not_eq_true'] at hc
          obtain ⟨⟨⟨⟨⟨c1, c2⟩, c3⟩, c4⟩, c5⟩, c6⟩ := hc
          split at h
          · rename_i h1 h2 h3 h4
            cases h
            exact ss_par g c1 c2 (by rw [c3]; exact beq_self_eq_true _) c4 c5 c6 h1 h2 h3 h4
          · cases h
        · split at h
          · rename_i hc
            simp only [Bool.or_eq_true, beq_iff_eq] at hc
            split at h
            · rename_i h1 h2
              cases h
              obtain ⟨s1, s2⟩ := tup_star h2
              rcases hc with hc | hc
              · exact ss_tup' g rfl (stores_cell (by rw [g.gd.eqS]; exact hc) s1 s2) h1 h2
              · exact ss_tup' g rfl (stores_fold hc s1 s2) h1 h2
            · cases h
          · cases h
      · split at h
        · cases h
        · rename_i hp
          simp only [Bool.not_eq_true', Bool.not_eq_false] at hp
          split at h
          · rename_i h1 h2
            cases h
            exact ss_tup g hp h1 h2
          · cases h
    · split at h
      · cases h
      · rename_i hc
        simp only [Bool.or_eq_true, Bool.and_eq_true, Bool.not_eq_true', not_or, not_and, Bool.not_eq_true, Bool.not_eq_false, beq_iff_eq] at hc
        obtain ⟨⟨⟨c1, c2⟩, c3⟩, c4⟩ := hc
        split at h
        · rename_i h1 h2 h3
          cases h
          exact ss_set g (pl_of c1) c2 c3 c4 h1 h2 h3
        · cases h
    · split at h
      · cases h
      · rename_i hl
        simp only [Bool.not_eq_true', Bool.not_eq_false] at hl
        split at h
        · rename_i h1 h2
          cases h
          exact ss_aug g hl h1 h2
        · cases h
    · split at h
      · cases h
      · rename_i hc
        simp only [Bool.or_eq_true, Bool.and_eq_true, Bool.not_eq_true', not_or, not_and, Bool.not_eq_true, Bool.not_eq_false, beq_iff_eq] at hc
        split at h
        · rename_i h1 h2 h3
          cases h
          exact ss_augs g hc.1.1 hc.1.2 hc.2 h1 h2 h3
        · cases h
    · cases h
end
end Itp

namespace Itp
variable [KF]
open PySem PySem.Spec PyProof.Rows
open L2 (V Hp HO upd upd_same upd_ne ne_of ne_of_none Same Cx Inv OpR CallR MtR IxR SlR PSet TruR Room RelV EP VK SqL SqT Dp DpAll It TI TE TA TT TG TGs TS TO PI PE PT PW PA PG PGs PS PSs PO PTs PIE thn Turn FpOk Itl Itt Its Itr Itc Itv Ite Itz Gl Vis Loc Sp FnOk Binds Ends)
section
variable {σ σ' : L2.St} {st st' : St} {Hs H Hs' H' : Hp} {vs : List V} {os : List O}
theorem app_cases {α : Type} {l : List (Option α)} {n i : Nat} {x : α} (h : (l ++ List.replicate n none)[i]? = some (some x)) : l[i]? = some (some x) := by
  by_cases hi : i < l.length
  · rw [List.getElem?_append_left hi] at h; exact h
  · rw [List.getElem?_append_right (by omega), List.getElem?_replicate] at h
    split at h <;> cases h
theorem app_at {α : Type} {l : List (Option α)} {n i : Nat} {x : α} (h : l[i]? = some (some x)) : (l ++ List.replicate n none)[i]? = some (some x) := by
  rw [List.getElem?_append_left (List.getElem?_eq_some_iff.mp h).1]; exact h
/-- the state at a def's entry -/
theorem start_ok {n m : Nat} (k : Ok (vs.map some) (os.map some) Hs H) (e : n = m) : Ok (vs.map some ++ List.replicate n none) (os.map some ++ List.replicate m none) Hs H := by
  subst e
  refine ⟨by simp [show os.length = vs.length by simpa using k.len], k.sub, fun i o q => ?_, fun i j p xs o a q1 q2 hh q3 q4 => ?_⟩
  · obtain ⟨v, a, b⟩ := k.rep i o (app_cases q)
    exact ⟨v, app_at a, b⟩
  · exact k.inj i j p xs o a (app_cases q1) (app_cases q2) hh (app_cases q3) (app_cases q4)
theorem start_own {n m : Nat} {a : Addr} (h : Own (vs.map some ++ List.replicate n none) (os.map some ++ List.replicate m none) a) : Own (vs.map some) (os.map some) a := by
  obtain ⟨i, p, xs, q1, q2⟩ := h
  exact ⟨i, p, xs, app_cases q1, app_cases q2⟩
theorem own_start {n m : Nat} {a : Addr} (h : Own (vs.map some) (os.map some) a) : Own (vs.map some ++ List.replicate n none) (os.map some ++ List.replicate m none) a := by
  obtain ⟨i, p, xs, q1, q2⟩ := h
  exact ⟨i, p, xs, app_at q1, app_at q2⟩
/-- what a def hands back -/
theorem leave_post {n m np : Nat} {r : R} {v : V} {o : O} {s2 : St} (lo : os.length = np) (lv : vs.length = np) (k' : Ok σ' st' Hs' H') (f : Fr (vs.map some ++ List.replicate n none) (os.map some ++ List.replicate m none) Hs H σ' st' Hs' H')
    (rr : RRep σ' st' Hs' H' v r) (fr : ∀ a ∈ tmp r v, Own (vs.map some ++ List.replicate n none) (os.map some ++ List.replicate m none) a ∨ H a = none) (e : leave r st' = some (o, s2)) : CallPost vs os Hs H o (s2.take np) v H' Hs' := by
  -- the pinned lists
  have pin : ∀ (j : Nat) (xs : List D), os[j]? = some (.l true xs) → j < np ∧ ∃ ys a ws, st'[j]? = some (some (.l true ys)) ∧ vs[j]? = some (.ref a) ∧ σ'[j]? = some (some (.ref a)) ∧ H' a = some (.lst ws) ∧ ShA Hs' ys ws ∧ Hs' a = none := by
    intro j xs q
    have hj : j < np := by rw [← lo]; exact (List.getElem?_eq_some_iff.mp q).1
    obtain ⟨ys, a, b⟩ := f.lp j xs (app_at (by rw [List.getElem?_map, q]; rfl))
    obtain ⟨w, c, a1, ws, rfl, g1, g2, g3⟩ := k'.rep j _ a
    refine ⟨hj, ys, a1, ws, a, ?_, c, g1, g2, g3⟩
    rw [c] at b
    have b2 := app_cases b.symm
    rw [List.getElem?_map] at b2
    cases z : vs[j]? with
    | none => rw [z] at b2; cases b2
    | some u => rw [z] at b2; cases b2; rfl
  have base : ∀ (o : O) (s2 : St), s2.length = st'.length → (∀ (j : Nat) (ys : List D), st'[j]? = some (some (.l true ys)) → s2[j]? = some (some (.l true ys))) → (match o with
    | .d x => Sh Hs' x v
    | .l _ xs => ∃ a ws, v = .ref a ∧ H' a = some (.lst ws) ∧ ShA Hs' xs ws ∧ Hs' a = none ∧ (Own (vs.map some) (os.map some) a ∨ H a = none) ∧ ∀ (j : Nat) (zs : List D), os[j]? = some (.l true zs) → vs[j]? ≠ some (.ref a)
    | .k _ _ => False) → CallPost vs os Hs H o (s2.take np) v H' Hs' := by
    intro o s2 ls keep res
    refine ⟨f.sub, k'.sub, fun a o h n => f.keep a o h fun z => n (start_own z), f.dom, fun a h n q => f.shr a h (fun z => n (start_own z)) q, ?_, fun j xs q => ?_, res⟩
    · rw [List.length_take, ls, f.sz]
      simp
      omega
    · obtain ⟨hj, ys, a, ws, b1, b2, _, b3, b4, b5⟩ := pin j xs q
      exact ⟨ys, a, ws, by rw [List.getElem?_take_of_lt hj]; exact keep j ys b1, b2, b3, b4, b5⟩
  cases r with
  | v o' =>
    cases o' with
    | d x =>
      simp only [leave, take, Option.some.injEq, Prod.mk.injEq] at e
      obtain ⟨rfl, rfl⟩ := e
      exact base _ _ rfl (fun _ _ q => q) rr
    | k p xs => simp [leave, take] at e
    | l p xs =>
      simp only [leave, take, Option.some.injEq, Prod.mk.injEq] at e
      obtain ⟨rfl, rfl⟩ := e
      obtain ⟨a, ws, rfl, g1, g2, g3, g4⟩ := rr
      refine base _ _ rfl (fun _ _ q => q) ⟨a, ws, rfl, g1, g2, g3, ?_, fun j zs q z => ?_⟩
      · rcases fr a (by simp [tmp]) with z | z
        · exact .inl (start_own z)
        · exact .inr z
      · obtain ⟨_, ys, a', ws', b1, b2, b3, _⟩ := pin j zs q
        rw [z] at b2; cases b2
        exact g4 ⟨j, _, b1, rfl, b3⟩
  | r i =>
    obtain ⟨e1, o', q⟩ := rr
    simp only [leave, q] at e
    cases o' with
    | d x =>
      simp only [Option.some.injEq, Prod.mk.injEq] at e
      obtain ⟨rfl, rfl⟩ := e
      obtain ⟨w, e2, rp⟩ := k'.rep i _ q
      rw [e1] at e2; cases e2
      exact base _ _ rfl (fun _ _ q => q) rp
    | k p xs => simp at e
    | l p xs =>
      cases p with
      | true => simp at e
      | false =>
        simp only [Option.some.injEq, Prod.mk.injEq] at e
        obtain ⟨rfl, rfl⟩ := e
        obtain ⟨w, e2, a, ws, rfl, g1, g2, g3⟩ := k'.rep i _ q
        rw [e1] at e2; cases e2
        refine base _ _ (by simp) (fun j ys z => ?_) ⟨a, ws, rfl, g1, g2, g3, ?_, fun j zs z1 z2 => ?_⟩
        · rw [List.getElem?_set_ne (fun h => by subst h; rw [q] at z; cases z)]; exact z
        · rcases f.own a ⟨i, false, xs, q, e1⟩ with z | z
          · exact .inl (start_own z)
          · exact .inr z
        · obtain ⟨_, ys, a', ws', b1, b2, b3, _⟩ := pin j zs z1
          rw [z2] at b2; cases b2
          have := k'.inj i j _ _ _ a q b1 rfl e1 b3
          subst this
          rw [q] at b1; cases b1
end
/-! ### the defs of a text, at every depth -/
section
variable {T : Tab} {gs : Gs} {P : Program} {w : World} {mg : Str → Option Value} {base : Heap}
/-- a def of the text, its core in the table -/
structure DefAt (T : Tab) (gs : Gs) (mg : Str → Option Value) (f : Str) (fa : Addr) (fd : FuncData) (N ps : List Str) (st : Stmt) (F : Fn) : Prop where
  mgf : mg f = some (.ref fa)
  kp : PySem.W.keepIn KF.k (.ref fa) = true
  binds : ∀ us : List Value, us.length = ps.length → bindArgs fd ⟨us, []⟩ = pure (ps.zip us)
  fn : L2.Fun KF.k f f st fa fd
  sc : L2.FnScope N ps (L2.defScope st)
  core : compD N ps gs st = some F
  tab : T f = some F
structure TopOk (T : Tab) (gs : Gs) (mg : Str → Option Value) : Prop where
  defs : ∀ f ∈ gs.fns, ∃ fa fd N ps st F, DefAt T gs mg f fa fd N ps st F
  blt : ∀ x ∈ bltNames, mg x = none
  cst : ∀ x d, gs.csts.lookup x = some d → ∃ u v, mg x = some u ∧ RelV v u ∧ ∀ Hs, Sh Hs d v
theorem DefAt.np {f : Str} {fa : Addr} {fd : FuncData} {N ps : List Str} {st : Stmt} {F : Fn} (d : DefAt T gs mg f fa fd N ps st F) : F.np = ps.length := by
  have h6 := d.core
  unfold compD at h6
  simp only [Option.map_eq_some_iff] at h6
  obtain ⟨b, _, rfl⟩ := h6
  rfl
theorem fn_ok (t : TopOk T gs mg) : ∀ (k : Nat) (f : Str) (fa : Addr) (fd : FuncData) (N ps : List Str) (st : Stmt) (F : Fn), DefAt T gs mg f fa fd N ps st F → FnG P w KF.k mg base k fa fd ps (spF (call T k) f ps.length)
  | 0, f, fa, fd, N, ps, st, F, d => ⟨fun _ _ _ _ q => q.1, fun A outer s H args us vs Q E _ _ _ _ _ q => by
      obtain ⟨_, os, Hs, _, q⟩ := q
      exact q.elim⟩
  | k + 1, f, fa, fd, N, ps, st, F, d => by
    have hC := call_mono T k
    have h6 := d.core
    have h5 := d.sc
    have h7 := d.tab
    unfold compD at h6
    simp only [Option.map_eq_some_iff] at h6
    obtain ⟨b, hb, rfl⟩ := h6
    refine fnG_of d.fn h5 (fun _ _ _ _ q => q.1) fun cdv A outer s H vs Q E hgd hr hsp => ?_
    have hpl : ps.length ≤ N.length := by have := congrArg List.length h5.pre; rw [List.length_take] at this; omega
    have g : GS T k gs N (L2.defScope st) (L2.cxOf L2.CX0 P w KF.k mg base N f (L2.defScope st) fa cdv A outer s H E).nox := by
      refine ⟨⟨rfl, h5.nd, rfl, rfl, rfl, hr, hgd, t.blt, t.cst, fun g hg => ?_⟩, fun _ => rfl, rfl, h5.kind⟩
      obtain ⟨fa', fd', N', ps', st', F', d'⟩ := t.defs g hg
      exact ⟨fa', fd', ps', d'.mgf, d'.kp, .all d'.binds, ⟨F', d'.tab, d'.np⟩, fn_ok t k g fa' fd' N' ps' st' F' d'⟩
    refine ⟨_, sss (snd_S g 60) hb, ?_⟩
    obtain ⟨lv, os, Hs, ok, F', e1, lo, wp⟩ := hsp
    rw [h7] at e1; cases e1
    have lo : os.length = ps.length := lo
    have ok' : Ok (L2.start N vs) (start ⟨ps.length, N.length, b⟩ os) Hs H := start_ok ok (by rw [lv])
    refine ⟨_, Hs, ok', ?_⟩
    refine wpS_mono hC b _ _ _ ?_ wp
    refine ⟨fun s' q σ' H' Hs' k' f' => ?_, fun r s' q σ' v H' Hs' k' f' rr fr => ?_, fun s' q => q.elim, fun s' q => q.elim⟩
    · exact q .non H' Hs' (leave_post (r := .v (.d .non)) (o := .d .non) lo lv k' f' rfl (fun a ha => by simp [tmp] at ha) rfl)
    · obtain ⟨o, s2, e2, q⟩ := q
      exact q v H' Hs' (leave_post lo lv k' f' rr fr e2)
/-! ### the law -/
def spLaw (m : Nat) : Sp := fun vs H Q _ => ∃ (a : Addr) (ns : List Int), vs = [.ref a] ∧ L2.SqL KF.k H a (ns.map V.int) ∧ ns.length ≤ m ∧ ∀ H', Q (.bl true) H'
theorem law_ok {m k : Nat} {f : Str} {fa : Addr} {fd : FuncData} {N ps : List Str} {st : Stmt} {F : Fn} (t : TopOk T gs mg) (d : DefAt T gs mg f fa fd N ps st F) (hp : ps.length = 1)
    (spec : ∀ ns : List Int, ns.length ≤ m → ∀ Q, (∀ fin, Q (.d (.bl true)) fin) → call T k f [.d (.frz (ns.map .int))] Q) : FnG P w KF.k mg base k fa fd ps (spLaw m) := by
  refine (fn_ok t k f fa fd N ps st F d).imp fun vs H Q E h => ?_
  obtain ⟨a, ns, rfl, hs, hl, q⟩ := h
  refine ⟨hp.symm, [.d (.frz (ns.map .int))], H, ⟨rfl, fun _ _ e => e, fun i o e => ?_, fun i j p xs o b e1 => ?_⟩, spec ns hl _ fun fin v H' Hs' cp => ?_⟩
  · cases i with
    | zero =>
      simp at e
      subst e
      exact ⟨_, rfl, a, _, rfl, hs, ShA.ofInts ns⟩
    | succ i => simp at e
  · cases i with
    | zero => simp at e1
    | succ i => simp at e1
  · cases (show v = _ from cp.res)
    exact q H'
end
end Itp
namespace Itp
open PySem PySem.Spec PyProof.Rows
open L2 (V Hp HO RelV)
/-! ### from what the top has left -/
theorem def_mk {T : Tab} {gs : Gs} {K : PySem.W.Frag} {h : Heap} {mg : Str → Option Value} {f : Str} {N ps : List Str} {st : Stmt} {F : Fn} {fa : Addr} (X : K.In h) (G : h.Ns mainGlobals mg) (sc : L2.FnScope N ps (L2.defScope st)) (core : compD N ps gs st = some F) (tab : T f = some F)
    (b : ∀ (kV doc pm : Value) (an : Option Addr) (cdv ct : Value) (us : List Value), us.length = ps.length → bindArgs (PySem.W.fnOf f f (L2.defArgs st) (L2.defBody st) (L2.defScope st) .none kV doc pm an cdv ct) ⟨us, []⟩ = pure (ps.zip us))
    {oc : Value} {od an : Option Addr} {osl : Array (Option Value)} {kV doc pm cdv ct : Value} (a1 : PySem.W.nsIn K mainGlobals f = some (some (.ref fa))) (l1 : K.lookup fa = some ⟨oc, od, .func (PySem.W.fnOf f f (L2.defArgs st) (L2.defBody st) (L2.defScope st) .none kV doc pm an cdv ct), osl⟩)
    (c1 : PySem.W.codeIn K cdv f = true) (k1 : PySem.W.keepIn K (.ref fa) = true) :
    @DefAt ⟨K⟩ T gs mg f fa (PySem.W.fnOf f f (L2.defArgs st) (L2.defBody st) (L2.defScope st) .none kV doc pm an cdv ct) N ps st F :=
  @DefAt.mk ⟨K⟩ T gs mg f fa _ N ps st F (PySem.W.mg_of X G a1) k1 (b kV doc pm an cdv ct) (L2.fun_mk l1 c1 k1) sc core tab
theorem blt_mk {K : PySem.W.Frag} {h : Heap} {mg : Str → Option Value} (X : K.In h) (G : h.Ns mainGlobals mg) (a : ∀ x ∈ bltNames, PySem.W.nsIn K mainGlobals x = some none) : ∀ x ∈ bltNames, mg x = none := fun x hx => PySem.W.mg_none_of X G (a x hx)
theorem cst_int {K : PySem.W.Frag} {h : Heap} {mg : Str → Option Value} {x : Str} {i : Int} {t : Tok} (X : K.In h) (G : h.Ns mainGlobals mg) (a : PySem.W.nsIn K mainGlobals x = some (some (.int i t))) : ∃ u v, mg x = some u ∧ RelV v u ∧ ∀ Hs, @Sh ⟨K⟩ Hs (.int i) v :=
  ⟨_, .int i, PySem.W.mg_of X G a, ⟨_, rfl⟩, fun _ => rfl⟩
end Itp

/-! Run: the interpreter once more, so that it unfolds by computation; what it tells, wp tells. -/
namespace Itp
open PySem
def ob {α : Type} (o : Option α) (f : α → Prop) : Prop := match o with
  | some x => f x
  | none => False
theorem ob_ex {α : Type} {o : Option α} {f : α → Prop} (h : ob o f) : ∃ x, o = some x ∧ f x := by
  cases o with
  | none => exact h.elim
  | some x => exact ⟨x, rfl, h⟩
def ob2 {α β : Type} (o : Option (α × β)) (f : α → β → Prop) : Prop := match o with
  | some (x, y) => f x y
  | none => False
theorem ob2_ex {α β : Type} {o : Option (α × β)} {f : α → β → Prop} (h : ob2 o f) : ∃ p, o = some p ∧ f p.1 p.2 := by
  cases o with
  | none => exact h.elim
  | some x => exact ⟨x, rfl, h⟩
/-- a slot written; what is handed on is a list of its own, written out -/
def setK : St → Nat → Option O → (St → Prop) → Prop
  | [], _, _, K => K []
  | _ :: s, 0, o, K => K (o :: s)
  | a :: s, n + 1, o, K => setK s n o fun s' => K (a :: s')
theorem setK_eq : ∀ (s : St) (i : Nat) (o : Option O) (K : St → Prop), setK s i o K = K (s.set i o)
  | [], _, _, _ => rfl
  | _ :: _, 0, _, _ => rfl
  | a :: s, n + 1, o, K => by rw [setK, setK_eq s n o, List.set_cons_succ]
def normK : St → (St → Prop) → Prop
  | [], K => K []
  | a :: s, K => normK s fun s' => K (a :: s')
theorem normK_eq : ∀ (s : St) (K : St → Prop), normK s K = K s
  | [], _ => rfl
  | a :: s, K => by rw [normK, normK_eq s]
def putK (i : Nat) (o : O) (s : St) (K : St → Prop) : Prop := match s[i]? with
  | some none => setK s i (some o) K
  | some (some (.d _)) => setK s i (some o) K
  | some (some (.l false _)) => setK s i (some o) K
  | some (some (.k false _)) => setK s i (some o) K
  | _ => False
theorem putK_ex {i : Nat} {o : O} {s : St} {K : St → Prop} (h : putK i o s K) : ∃ s', put i o s = some s' ∧ K s' := by
  unfold putK at h
  unfold put
  have fin : setK s i (some o) K → ∃ s', some (s.set i (some o)) = some s' ∧ K s' := fun h => by
    rw [setK_eq] at h
    exact ⟨_, rfl, h⟩
  generalize s[i]? = r at h ⊢
  rcases r with _ | (_ | (x | ⟨p, xs⟩ | ⟨p, xs⟩))
  · exact h.elim
  · exact fin h
  · exact fin h
  · cases p
    · exact fin h
    · exact h.elim
  · cases p
    · exact fin h
    · exact h.elim
mutual
def setTgK : Tg → D → St → (St → Prop) → Prop
  | .nm i, x, s, K => putK i (.d x) s K
  | .tp t, .tup xs, s, K => setTgsK t xs s K
  | .tp t, .lst xs, s, K => setTgsK t xs s K
  | _, _, _, _ => False
def setTgsK : Tg → List D → St → (St → Prop) → Prop
  | .nil, [], s, K => K s
  | .cons a b, x :: xs, s, K => setTgK a x s fun s1 => setTgsK b xs s1 K
  | _, _, _, _ => False
end
theorem setTg_exs : ∀ t : Tg, (∀ (x : D) (s : St) (K : St → Prop), setTgK t x s K → ∃ s', setTg t x s = some s' ∧ K s') ∧ ∀ (xs : List D) (s : St) (K : St → Prop), setTgsK t xs s K → ∃ s', setTgs t xs s = some s' ∧ K s' := by
  intro t
  induction t with
  | nm i =>
    refine ⟨fun x s K h => ?_, fun xs s K h => ?_⟩
    · simp only [setTgK] at h
      obtain ⟨s', e, q⟩ := putK_ex h
      exact ⟨s', by simp only [setTg]; exact e, q⟩
    · cases xs <;> simp only [setTgsK] at h
  | tp t ih =>
    refine ⟨fun x s K h => ?_, fun xs s K h => ?_⟩
    · cases x <;> simp only [setTgK] at h
      all_goals
        obtain ⟨s', e, q⟩ := ih.2 _ _ _ h
        exact ⟨s', by simp only [setTg]; exact e, q⟩
    · cases xs <;> simp only [setTgsK] at h
  | nil =>
    refine ⟨fun x s K h => ?_, fun xs s K h => ?_⟩
    · cases x <;> simp only [setTgK] at h
    · cases xs <;> simp only [setTgsK] at h
      exact ⟨s, by simp only [setTgs], h⟩
  | cons a b iha ihb =>
    refine ⟨fun x s K h => ?_, fun xs s K h => ?_⟩
    · cases x <;> simp only [setTgK] at h
    · cases xs with
      | nil => simp only [setTgsK] at h
      | cons x xs =>
        simp only [setTgsK] at h
        obtain ⟨s1, e1, q⟩ := iha.1 _ _ _ h
        obtain ⟨s2, e2, q⟩ := ihb.2 _ _ _ q
        exact ⟨s2, by simp only [setTgs, e1]; exact e2, q⟩
theorem setTgK_ex {t : Tg} {x : D} {s : St} {K : St → Prop} (h : setTgK t x s K) : ∃ s', setTg t x s = some s' ∧ K s' := (setTg_exs t).1 x s K h
def backK (s0 : St) : List R → List (Option O) → St → (St → Prop) → Prop
  | .r i :: rs, o :: os, s, K => match s0[i]? with
    | some (some (.l p _)) => match o with
      | some (.l true ys) => setK s i (some (.l p ys)) fun s' => backK s0 rs os s' K
      | _ => False
    | _ => backK s0 rs os s K
  | .v _ :: rs, _ :: os, s, K => backK s0 rs os s K
  | [], [], s, K => K s
  | _, _, _, _ => False
theorem backK_ex {s0 : St} : ∀ {rs : List R} {os : List (Option O)} {s : St} {K : St → Prop}, backK s0 rs os s K → ∃ s2, back s0 rs os s = some s2 ∧ K s2
  | [], [], s, K, h => ⟨s, rfl, h⟩
  | [], _ :: _, s, K, h => h.elim
  | .v _ :: _, [], s, K, h => h.elim
  | .r _ :: _, [], s, K, h => h.elim
  | .v _ :: rs, _ :: os, s, K, h => by
    have h : backK s0 rs os s K := h
    exact backK_ex (rs := rs) (os := os) h
  | .r i :: rs, o :: os, s, K, h => by
    simp only [backK] at h
    simp only [back]
    generalize s0[i]? = r at h ⊢
    rcases r with _ | (_ | (x | ⟨p, xs⟩ | ⟨p, xs⟩))
    · exact backK_ex (rs := rs) (os := os) h
    · exact backK_ex (rs := rs) (os := os) h
    · exact backK_ex (rs := rs) (os := os) h
    · rcases o with _ | (x | ⟨p', ys⟩ | ⟨p', ys⟩)
      · exact h.elim
      · exact h.elim
      · cases p'
        · exact h.elim
        · have h : setK s i (some (.l p ys)) (fun s' => backK s0 rs os s' K) := h
          rw [setK_eq] at h
          exact backK_ex (rs := rs) (os := os) h
      · exact h.elim
    · exact backK_ex (rs := rs) (os := os) h
def asI (x : D) (Q : Int → Prop) : Prop := match x with
  | .int i => Q i
  | _ => False
def asB (x : D) (Q : Bool → Prop) : Prop := match x with
  | .bl i => Q i
  | _ => False
def asL (x : D) (Q : List D → Prop) : Prop := match x with
  | .lst i => Q i
  | _ => False
theorem asI_ex {x : D} {Q : Int → Prop} (h : asI x Q) : ∃ i, x = .int i ∧ Q i := by cases x <;> first | exact ⟨_, rfl, h⟩ | exact h.elim
theorem asB_ex {x : D} {Q : Bool → Prop} (h : asB x Q) : ∃ i, x = .bl i ∧ Q i := by cases x <;> first | exact ⟨_, rfl, h⟩ | exact h.elim
theorem asL_ex {x : D} {Q : List D → Prop} (h : asL x Q) : ∃ i, x = .lst i ∧ Q i := by cases x <;> first | exact ⟨_, rfl, h⟩ | exact h.elim
def asD (x : O) (Q : D → Prop) : Prop := match x with
  | .d i => Q i
  | _ => False
theorem asD_ex {x : O} {Q : D → Prop} (h : asD x Q) : ∃ i, x = .d i ∧ Q i := by cases x <;> first | exact ⟨_, rfl, h⟩ | exact h.elim
def ownL (s : St) (i : Nat) (Q : Bool → List D → Prop) : Prop := match s[i]? with
  | some (some (.l p xs)) => Q p xs
  | _ => False
theorem ownL_ex {s : St} {i : Nat} {Q : Bool → List D → Prop} (h : ownL s i Q) : ∃ p xs, s[i]? = some (some (.l p xs)) ∧ Q p xs := by
  unfold ownL at h
  split at h
  · exact ⟨_, _, by assumption, h⟩
  · exact h.elim
def datL (s : St) (i : Nat) (Q : D → Prop) : Prop := match s[i]? with
  | some (some (.d x)) => Q x
  | _ => False
theorem datL_ex {s : St} {i : Nat} {Q : D → Prop} (h : datL s i Q) : ∃ x, s[i]? = some (some (.d x)) ∧ Q x := by
  unfold datL at h
  split at h
  · exact ⟨_, by assumption, h⟩
  · exact h.elim
def apart : List Nat → Bool
  | [] => true
  | x :: xs => !xs.contains x && apart xs
theorem apart_nd : ∀ {L : List Nat}, apart L = true → L.Nodup
  | [], _ => .nil
  | x :: xs, h => by
    simp only [apart, Bool.and_eq_true, Bool.not_eq_true', List.contains_eq_mem, decide_eq_false_iff_not] at h
    exact List.nodup_cons.mpr ⟨h.1, apart_nd h.2⟩
def sure (b : Bool) (P : Prop) : Prop := match b with
  | true => P
  | false => False
theorem sure_ex {b : Bool} {P : Prop} (h : sure b P) : b = true ∧ P := by cases b <;> first | exact ⟨rfl, h⟩ | exact h.elim
structure Ev where
  E : St → (R → St → Prop) → Prop
  T : St → (Bool → St → Prop) → Prop
  A : St → (List R → St → Prop) → Prop
  O : St → (Option Int → St → Prop) → Prop
def Ev.of (f : St → (R → St → Prop) → Prop) : Ev where
  E := f
  T := fun s Q => f s fun r s1 => ob (view r s1) fun x => truth x fun k => Q k s1
  A := fun _ _ => False
  O := fun s Q => f s fun r s1 => ob (view r s1) fun x => asI x fun i => Q (some i) s1
def Ev.ofT (f : St → (R → St → Prop) → Prop) (t : St → (Bool → St → Prop) → Prop) : Ev where
  E := f
  T := t
  A := fun _ _ => False
  O := fun s Q => f s fun r s1 => ob (view r s1) fun x => asI x fun i => Q (some i) s1
def ev (C : Ct) : E → Ev
  | .nil => ⟨fun _ _ => False, fun _ _ => False, fun s Q => Q [] s, fun _ _ => False⟩
  | .nop => ⟨fun _ _ => False, fun s Q => Q true s, fun _ _ => False, fun s Q => Q none s⟩
  | .cons a b => ⟨fun _ _ => False, fun _ _ => False, fun s Q => (ev C a).E s fun r s1 => (ev C b).A s1 fun rs s2 => Q (r :: rs) s2, fun _ _ => False⟩
  | .var i => .of fun s Q => match s[i]? with
    | some (some (.d x)) => Q (.v (.d x)) s
    | some (some (.l _ _)) => Q (.r i) s
    | some (some (.k _ _)) => Q (.r i) s
    | _ => False
  | .cst x => .of fun s Q => Q (.v (.d x)) s
  | .bin op a b => .of fun s Q => (ev C a).E s fun ra s1 => (ev C b).E s1 fun rb s2 => ob (view ra s2) fun x => ob (view rb s2) fun y => binop op x y fun z => Q (.v z) s2
  | .neg a => .of fun s Q => (ev C a).E s fun ra s1 => ob (view ra s1) fun x => asI x fun i => Q (.v (.d (.int (-i)))) s1
  | .not_ a => .ofT (fun s Q => (ev C a).E s fun ra s1 => ob (view ra s1) fun x => asB x fun b => Q (.v (.d (.bl (!b)))) s1) fun s Q => (ev C a).T s fun c s1 => Q (!c) s1
  | .cmp op a b => .ofT (fun s Q => (ev C a).E s fun ra s1 => (ev C b).E s1 fun rb s2 => ob (view ra s2) fun x => ob (view rb s2) fun y => cmpop op x y fun z => Q (.v (.d (.bl z))) s2)
      fun s Q => (ev C a).E s fun ra s1 => (ev C b).E s1 fun rb s2 => ob (view ra s2) fun x => ob (view rb s2) fun y => cmpop op x y fun z => Q z s2
  | .chn o1 o2 a b c => .ofT (fun s Q => (ev C a).E s fun ra s1 => (ev C b).E s1 fun rb s2 => ob (view ra s2) fun x => ob (view rb s2) fun y => cmpop o1 x y fun z =>
        if z = true then (ev C c).E s2 fun rc s3 => ob (view rb s3) fun y' => ob (view rc s3) fun w => cmpop o2 y' w fun z2 => Q (.v (.d (.bl z2))) s3 else Q (.v (.d (.bl false))) s2)
      fun s Q => (ev C a).E s fun ra s1 => (ev C b).E s1 fun rb s2 => ob (view ra s2) fun x => ob (view rb s2) fun y => cmpop o1 x y fun z =>
        if z = true then (ev C c).E s2 fun rc s3 => ob (view rb s3) fun y' => ob (view rc s3) fun w => cmpop o2 y' w fun z2 => Q z2 s3 else Q false s2
  | .and_ a b => .ofT (fun s Q => (ev C a).E s fun ra s1 => ob (view ra s1) fun x => asB x fun c => if c = true then (ev C b).E s1 Q else Q (.v (.d (.bl false))) s1)
      fun s Q => (ev C a).T s fun c s1 => if c = true then (ev C b).T s1 Q else Q false s1
  | .or_ a b => .ofT (fun s Q => (ev C a).E s fun ra s1 => ob (view ra s1) fun x => asB x fun c => if c = true then Q (.v (.d (.bl true))) s1 else (ev C b).E s1 Q)
      fun s Q => (ev C a).T s fun c s1 => if c = true then Q true s1 else (ev C b).T s1 Q
  | .ite c a b => .ofT (fun s Q => (ev C c).T s fun k s1 => if k = true then (ev C a).E s1 Q else (ev C b).E s1 Q) fun s Q => (ev C c).T s fun k s1 => if k = true then (ev C a).T s1 Q else (ev C b).T s1 Q
  | .tup as => .of fun s Q => (ev C as).A s fun rs s1 => ob2 (frozAll rs s1) fun xs s2 => xs.length ≤ line ∧ Q (.v (.d (.tup xs))) s2
  | .lst as => .of fun s Q => (ev C as).A s fun rs s1 => ob2 (frozAll rs s1) fun xs s2 => xs.length ≤ line ∧ Q (.v (.l false xs)) s2
  | .idx a b => .of fun s Q => (ev C a).E s fun ra s1 => (ev C b).E s1 fun rb s2 => ob (view ra s2) fun x => ob (view rb s2) fun y => index x y fun z => Q (.v (.d z)) s2
  | .slc a lo hi => .of fun s Q => (ev C a).E s fun ra s1 => (ev C lo).O s1 fun l s2 => (ev C hi).O s2 fun h s3 => ob (view ra s3) fun x => slice x l h fun z => Q (.v z) s3
  | .rv a => .of fun s Q => (ev C a).E s fun ra s1 => ob (view ra s1) fun x => asL x fun xs => Q (.v (.l false xs.reverse)) s1
  | .call f as => .of fun s Q => (ev C as).A s fun rs s1 => ob (args rs s1) fun os => sure (apart (lent rs s1)) (C f os fun res fin => backK s1 rs fin s1 fun s2 => Q (.v res) s2)
  | .blt b as => .of fun s Q => (ev C as).A s fun rs s1 => ob (viewAll rs s1) fun xs => bltin b xs fun z => Q (.v z) s1
  | .isi a t => .of fun s Q => (ev C a).E s fun ra s1 => ob (view ra s1) fun x => isTy x t fun z => Q (.v (.d (.bl z))) s1
  | .mth m o as => .of fun s Q => (ev C o).E s fun ro s1 => ob (view ro s1) fun x0 => sure (recv m x0) ((ev C as).A s1 fun rs s2 => ob (view ro s2) fun x => ob (viewAll rs s2) fun xs => meth m x xs fun z => Q (.v z) s2)
  | .chg m i as => .of fun s Q => ownL s i fun _ _ => (ev C as).A s fun rs s1 => ob2 (frozAll rs s1) fun ds s2 => ownL s2 i fun p xs => muta m xs ds fun x ys => setK s2 i (some (.l p ys)) fun s3 => Q (.v (.d x)) s3
  | .srt a => .of fun s Q => (ev C a).E s fun ra s1 => ob (view ra s1) fun x => asL x fun xs => SrtOk xs ∧ Q (.v (.l false (srtD xs))) s1
  | .srr a => .of fun s Q => (ev C a).E s fun ra s1 => ob (view ra s1) fun x => asL x fun xs => SrtOk xs ∧ Q (.v (.l false (srtR xs))) s1
  | .fz a => .ofT (fun s Q => (ev C a).E s fun ra s1 => ob2 (fzo ra s1) Q) fun _ _ => False
  | .comp own t k as c e => .of fun s Q => (ev C as).A s fun rs s1 => ob (viewAll rs s1) fun ds => items k ds fun xs =>
      compL t own (lock (lent rs s1) s1) (ev C c).T (ev C e).E (unlock (lent rs s1)) Q xs [] (lock (lent rs s1) s1)
def rS (C : Ct) : S → En → St → Prop
  | .skip, D, s => D.nx s
  | .seq a b, D, s => rS C a { D with nx := fun s1 => rS C b D s1 } s
  | .asg (.nm i) e, D, s => (ev C e).E s fun r s1 => ob2 (take r s1) fun o s2 => putK i o s2 fun s3 => D.nx s3
  | .asg t e, D, s => (ev C e).E s fun r s1 => ob2 (froz r s1) fun x s2 => setTgK t x s2 fun s3 => D.nx s3
  | .par i j a b, D, s => (ev C a).E s fun ra s1 => (ev C b).E s1 fun rb s2 => ob2 (take ra s2) fun x s3 => ob2 (take rb s3) fun y s4 => putK i x s4 fun s5 => putK j y s5 fun s6 => D.nx s6
  | .set o i e, D, s => (ev C e).E s fun r s1 => ownL s1 o fun _ _ => (ev C i).E s1 fun ri s2 => ob2 (froz r s2) fun x s3 => ob (view ri s3) fun k => asI k fun k => ownL s3 o fun b xs => ∃ j, L2.ixN xs.length k = some j ∧ setK s3 o (some (.l b (xs.set j x))) fun s4 => D.nx s4
  | .aug i op e, D, s => datL s i fun x => (ev C e).E s fun r s1 => ob (view r s1) fun y => iop op x y fun z => putK i z s1 fun s2 => D.nx s2
  | .augs o i op e, D, s => ownL s o fun _ _ => (ev C i).E s fun ri s1 => ob (view ri s1) fun k => asI k fun k => ownL s1 o fun p xs => ∃ x, L2.atI xs k = some x ∧
      (ev C e).E s1 fun r s2 => ob (view r s2) fun y => iop op x y fun z => asD z fun w => ownL s2 o fun p ys => ∃ j, L2.ixN ys.length k = some j ∧ setK s2 o (some (.l p (ys.set j w))) fun s3 => D.nx s3
  | .ex e, D, s => (ev C e).E s fun _ s1 => D.nx s1
  | .ite c a b, D, s => (ev C c).T s fun k s1 => if k = true then rS C a D s1 else rS C b D s1
  | .for_ t k as b, D, s => (ev C as).A s fun rs s1 => ob (viewAll rs s1) fun ds => items k ds fun xs => forL t (fun D s => normK s fun s => rS C b D s) (unlock (lent rs s1)) D xs (lock (lent rs s1) s1)
  | .while_ c b, D, s => ∃ W : Nat → St → Prop, (∃ m, W m s) ∧ ∀ m s, W m s → (ev C c).T s fun k s1 => if k = true then
      rS C b { D with nx := fun s2 => ∃ m', m' < m ∧ W m' s2, ct := fun s2 => ∃ m', m' < m ∧ W m' s2, bk := D.nx } s1 else D.nx s1
  | .ret e, D, s => (ev C e).E s D.rt
  | .retn, D, s => D.rt (.v (.d .non)) s
  | .brk, D, s => D.bk s
  | .cnt, D, s => D.ct s
  | .never, _, _ => False
  | .asgd i e, D, s => (ev C e).E s fun r s1 => ob2 (froz r s1) fun x s2 => putK i (.d x) s2 fun s3 => D.nx s3
section
variable {C : Ct} (hC : CtMono C)
include hC
theorem compL_imp {t : Tg} {own : List Nat} {s0 : St} {c c' : St → (Bool → St → Prop) → Prop} {e e' : St → (R → St → Prop) → Prop} {ul : St → St} {Q : R → St → Prop}
    (hc : ∀ s Q, c s Q → c' s Q) (he : ∀ s Q, e s Q → e' s Q) (mc : ∀ s Q Q', (∀ b s, Q b s → Q' b s) → c' s Q → c' s Q') (me : ∀ s Q Q', (∀ b s, Q b s → Q' b s) → e' s Q → e' s Q') :
    ∀ xs acc s, compL t own s0 c e ul Q xs acc s → compL t own s0 c' e' ul Q xs acc s
  | [], acc, s, w => by unfold compL at *; exact w
  | x :: xs, acc, s, w => by
    unfold compL at *
    obtain ⟨s1, e1, w⟩ := w
    refine ⟨s1, e1, mc _ _ _ (fun b s2 w => ?_) (hc _ _ w)⟩
    cases b with
    | true =>
      rw [if_pos rfl] at *
      refine me _ _ _ (fun r s3 w => ?_) (he _ _ w)
      obtain ⟨d, s4, e, l, w⟩ := w
      exact ⟨d, s4, e, l, compL_imp hc he mc me xs _ _ w⟩
    | false =>
      rw [if_neg Bool.false_ne_true] at *
      exact compL_imp hc he mc me xs _ _ w
theorem ev_of : ∀ e : E, (∀ s Q, (ev C e).E s Q → wpE C e s Q) ∧ (∀ s Q, (ev C e).T s Q → wpT C e s Q) ∧ (∀ s Q, (ev C e).A s Q → wpA C e s Q) ∧ (∀ s Q, (ev C e).O s Q → wpO C e s Q) := by
  have dT : ∀ e : E, (∀ s Q, (ev C e).E s Q → wpE C e s Q) → ∀ s (Q : Bool → St → Prop), ((ev C e).E s fun r s1 => ob (view r s1) fun x => truth x fun k => Q k s1) → wpE C e s fun r s1 => ∃ x, view r s1 = some x ∧ truth x fun k => Q k s1 :=
    fun e he s Q w => wpE_mono hC (he _ _ w) fun r s1 w => ob_ex w
  have dO : ∀ e : E, (∀ s Q, (ev C e).E s Q → wpE C e s Q) → ∀ s (Q : Option Int → St → Prop), ((ev C e).E s fun r s1 => ob (view r s1) fun x => asI x fun i => Q (some i) s1) → wpE C e s fun r s1 => ∃ i, view r s1 = some (.int i) ∧ Q (some i) s1 :=
    fun e he s Q w => wpE_mono hC (he _ _ w) fun r s1 w => by
      obtain ⟨x, e1, w⟩ := ob_ex w
      obtain ⟨i, rfl, w⟩ := asI_ex w
      exact ⟨i, e1, w⟩
  intro e
  induction e with
  | nil => exact ⟨fun _ _ w => w.elim, fun _ _ w => w.elim, fun _ _ w => by simp only [wpA]; exact w, fun _ _ w => w.elim⟩
  | nop => exact ⟨fun _ _ w => w.elim, fun _ _ w => by simp only [wpT]; exact w, fun _ _ w => w.elim, fun _ _ w => by simp only [wpO]; exact w⟩
  | cons a b iha ihb =>
    refine ⟨fun _ _ w => w.elim, fun _ _ w => w.elim, fun s Q w => ?_, fun _ _ w => w.elim⟩
    simp only [wpA]
    exact wpE_mono hC (iha.1 _ _ w) fun r s1 w => ihb.2.2.1 _ _ w
  | var i =>
    have he : ∀ s Q, (ev C (.var i)).E s Q → wpE C (.var i) s Q := fun s Q w => by
      simp only [wpE]
      have w : (match s[i]? with
        | some (some (.d x)) => Q (.v (.d x)) s
        | some (some (.l _ _)) => Q (.r i) s
        | some (some (.k _ _)) => Q (.r i) s
        | _ => False) := w
      cases q : s[i]? with
      | none => rw [q] at w; exact w.elim
      | some o => cases o with
        | none => rw [q] at w; exact w.elim
        | some o => rw [q] at w; cases o <;> exact w
    exact ⟨he, fun s Q w => by simp only [wpT]; exact dT _ he s Q w, fun _ _ w => w.elim, fun s Q w => by simp only [wpO]; exact dO _ he s Q w⟩
  | cst x =>
    have he : ∀ s Q, (ev C (.cst x)).E s Q → wpE C (.cst x) s Q := fun s Q w => by simp only [wpE]; exact w
    refine ⟨he, fun s Q w => ?_, fun _ _ w => w.elim, fun s Q w => by simp only [wpO]; exact dO _ he s Q w⟩
    cases x <;> simp only [wpT] <;> first | exact w | exact dT _ he s Q w
  | bin op a b iha ihb =>
    have he : ∀ s Q, (ev C (.bin op a b)).E s Q → wpE C (.bin op a b) s Q := fun s Q w => by
      simp only [wpE]
      refine wpE_mono hC (iha.1 _ _ w) fun ra s1 w => wpE_mono hC (ihb.1 _ _ w) fun rb s2 w => ?_
      obtain ⟨x, e1, w⟩ := ob_ex w
      obtain ⟨y, e2, w⟩ := ob_ex w
      exact ⟨x, y, e1, e2, w⟩
    exact ⟨he, fun s Q w => by simp only [wpT]; exact dT _ he s Q w, fun _ _ w => w.elim, fun s Q w => by simp only [wpO]; exact dO _ he s Q w⟩
  | neg a iha =>
    have he : ∀ s Q, (ev C (.neg a)).E s Q → wpE C (.neg a) s Q := fun s Q w => by
      simp only [wpE]
      refine wpE_mono hC (iha.1 _ _ w) fun ra s1 w => ?_
      obtain ⟨x, e1, w⟩ := ob_ex w
      obtain ⟨i, rfl, w⟩ := asI_ex w
      exact ⟨i, e1, w⟩
    exact ⟨he, fun s Q w => by simp only [wpT]; exact dT _ he s Q w, fun _ _ w => w.elim, fun s Q w => by simp only [wpO]; exact dO _ he s Q w⟩
  | not_ a iha =>
    have he : ∀ s Q, (ev C (.not_ a)).E s Q → wpE C (.not_ a) s Q := fun s Q w => by
      simp only [wpE]
      refine wpE_mono hC (iha.1 _ _ w) fun ra s1 w => ?_
      obtain ⟨x, e1, w⟩ := ob_ex w
      obtain ⟨i, rfl, w⟩ := asB_ex w
      exact ⟨i, e1, w⟩
    exact ⟨he, fun s Q w => by simp only [wpT]; exact wpT_mono hC (iha.2.1 _ _ w) fun _ _ w => w, fun _ _ w => w.elim, fun s Q w => by simp only [wpO]; exact dO _ he s Q w⟩
  | cmp op a b iha ihb =>
    have he : ∀ s Q, (ev C (.cmp op a b)).E s Q → wpE C (.cmp op a b) s Q := fun s Q w => by
      simp only [wpE]
      refine wpE_mono hC (iha.1 _ _ w) fun ra s1 w => wpE_mono hC (ihb.1 _ _ w) fun rb s2 w => ?_
      obtain ⟨x, e1, w⟩ := ob_ex w
      obtain ⟨y, e2, w⟩ := ob_ex w
      exact ⟨x, y, e1, e2, w⟩
    refine ⟨he, fun s Q w => ?_, fun _ _ w => w.elim, fun s Q w => by simp only [wpO]; exact dO _ he s Q w⟩
    simp only [wpT]
    refine wpE_mono hC (iha.1 _ _ w) fun ra s1 w => wpE_mono hC (ihb.1 _ _ w) fun rb s2 w => ?_
    obtain ⟨x, e1, w⟩ := ob_ex w
    obtain ⟨y, e2, w⟩ := ob_ex w
    exact ⟨x, y, e1, e2, w⟩
  | chn o1 o2 a b c iha ihb ihc =>
    have he : ∀ s Q, (ev C (.chn o1 o2 a b c)).E s Q → wpE C (.chn o1 o2 a b c) s Q := fun s Q w => by
      simp only [wpE]
      refine wpE_mono hC (iha.1 _ _ w) fun ra s1 w => wpE_mono hC (ihb.1 _ _ w) fun rb s2 w => ?_
      obtain ⟨x, e1, w⟩ := ob_ex w
      obtain ⟨y, e2, w⟩ := ob_ex w
      refine ⟨x, y, e1, e2, cmpop_mono (fun z w => ?_) w⟩
      cases z with
      | false => exact w
      | true =>
        refine wpE_mono hC (ihc.1 _ _ w) fun rc s3 w => ?_
        obtain ⟨x, e1, w⟩ := ob_ex w
        obtain ⟨y, e2, w⟩ := ob_ex w
        exact ⟨x, y, e1, e2, w⟩
    refine ⟨he, fun s Q w => ?_, fun _ _ w => w.elim, fun s Q w => by simp only [wpO]; exact dO _ he s Q w⟩
    simp only [wpT]
    refine wpE_mono hC (iha.1 _ _ w) fun ra s1 w => wpE_mono hC (ihb.1 _ _ w) fun rb s2 w => ?_
    obtain ⟨x, e1, w⟩ := ob_ex w
    obtain ⟨y, e2, w⟩ := ob_ex w
    refine ⟨x, y, e1, e2, cmpop_mono (fun z w => ?_) w⟩
    cases z with
    | false => exact w
    | true =>
      refine wpE_mono hC (ihc.1 _ _ w) fun rc s3 w => ?_
      obtain ⟨x, e1, w⟩ := ob_ex w
      obtain ⟨y, e2, w⟩ := ob_ex w
      exact ⟨x, y, e1, e2, w⟩
  | and_ a b iha ihb =>
    have he : ∀ s Q, (ev C (.and_ a b)).E s Q → wpE C (.and_ a b) s Q := fun s Q w => by
      simp only [wpE]
      refine wpE_mono hC (iha.1 _ _ w) fun ra s1 w => ?_
      obtain ⟨x, e1, w⟩ := ob_ex w
      obtain ⟨i, rfl, w⟩ := asB_ex w
      refine ⟨i, e1, ?_⟩
      cases i with
      | false => exact w
      | true => exact ihb.1 _ _ w
    refine ⟨he, fun s Q w => ?_, fun _ _ w => w.elim, fun s Q w => by simp only [wpO]; exact dO _ he s Q w⟩
    simp only [wpT]
    refine wpT_mono hC (iha.2.1 _ _ w) fun c s1 w => ?_
    cases c with
    | false => exact w
    | true => exact ihb.2.1 _ _ w
  | or_ a b iha ihb =>
    have he : ∀ s Q, (ev C (.or_ a b)).E s Q → wpE C (.or_ a b) s Q := fun s Q w => by
      simp only [wpE]
      refine wpE_mono hC (iha.1 _ _ w) fun ra s1 w => ?_
      obtain ⟨x, e1, w⟩ := ob_ex w
      obtain ⟨i, rfl, w⟩ := asB_ex w
      refine ⟨i, e1, ?_⟩
      cases i with
      | true => exact w
      | false => exact ihb.1 _ _ w
    refine ⟨he, fun s Q w => ?_, fun _ _ w => w.elim, fun s Q w => by simp only [wpO]; exact dO _ he s Q w⟩
    simp only [wpT]
    refine wpT_mono hC (iha.2.1 _ _ w) fun c s1 w => ?_
    cases c with
    | true => exact w
    | false => exact ihb.2.1 _ _ w
  | ite c a b ihc iha ihb =>
    have he : ∀ s Q, (ev C (.ite c a b)).E s Q → wpE C (.ite c a b) s Q := fun s Q w => by
      simp only [wpE]
      refine wpT_mono hC (ihc.2.1 _ _ w) fun k s1 w => ?_
      cases k with
      | true => exact iha.1 _ _ w
      | false => exact ihb.1 _ _ w
    refine ⟨he, fun s Q w => ?_, fun _ _ w => w.elim, fun s Q w => by simp only [wpO]; exact dO _ he s Q w⟩
    simp only [wpT]
    refine wpT_mono hC (ihc.2.1 _ _ w) fun k s1 w => ?_
    cases k with
    | true => exact iha.2.1 _ _ w
    | false => exact ihb.2.1 _ _ w
  | tup as ih =>
    have he : ∀ s Q, (ev C (.tup as)).E s Q → wpE C (.tup as) s Q := fun s Q w => by
      simp only [wpE]
      refine wpA_mono hC (ih.2.2.1 _ _ w) fun rs s1 w => ?_
      obtain ⟨p, e1, w⟩ := ob2_ex w
      exact ⟨p.1, p.2, e1, w⟩
    exact ⟨he, fun s Q w => by simp only [wpT]; exact dT _ he s Q w, fun _ _ w => w.elim, fun s Q w => by simp only [wpO]; exact dO _ he s Q w⟩
  | lst as ih =>
    have he : ∀ s Q, (ev C (.lst as)).E s Q → wpE C (.lst as) s Q := fun s Q w => by
      simp only [wpE]
      refine wpA_mono hC (ih.2.2.1 _ _ w) fun rs s1 w => ?_
      obtain ⟨p, e1, w⟩ := ob2_ex w
      exact ⟨p.1, p.2, e1, w⟩
    exact ⟨he, fun s Q w => by simp only [wpT]; exact dT _ he s Q w, fun _ _ w => w.elim, fun s Q w => by simp only [wpO]; exact dO _ he s Q w⟩
  | idx a b iha ihb =>
    have he : ∀ s Q, (ev C (.idx a b)).E s Q → wpE C (.idx a b) s Q := fun s Q w => by
      simp only [wpE]
      refine wpE_mono hC (iha.1 _ _ w) fun ra s1 w => wpE_mono hC (ihb.1 _ _ w) fun rb s2 w => ?_
      obtain ⟨x, e1, w⟩ := ob_ex w
      obtain ⟨y, e2, w⟩ := ob_ex w
      exact ⟨x, y, e1, e2, w⟩
    exact ⟨he, fun s Q w => by simp only [wpT]; exact dT _ he s Q w, fun _ _ w => w.elim, fun s Q w => by simp only [wpO]; exact dO _ he s Q w⟩
  | slc a lo hi iha ihl ihh =>
    have he : ∀ s Q, (ev C (.slc a lo hi)).E s Q → wpE C (.slc a lo hi) s Q := fun s Q w => by
      simp only [wpE]
      exact wpE_mono hC (iha.1 _ _ w) fun ra s1 w => wpO_mono hC (ihl.2.2.2 _ _ w) fun l s2 w => wpO_mono hC (ihh.2.2.2 _ _ w) fun h s3 w => ob_ex w
    exact ⟨he, fun s Q w => by simp only [wpT]; exact dT _ he s Q w, fun _ _ w => w.elim, fun s Q w => by simp only [wpO]; exact dO _ he s Q w⟩
  | rv a iha =>
    have he : ∀ s Q, (ev C (.rv a)).E s Q → wpE C (.rv a) s Q := fun s Q w => by
      simp only [wpE]
      refine wpE_mono hC (iha.1 _ _ w) fun ra s1 w => ?_
      obtain ⟨x, e1, w⟩ := ob_ex w
      obtain ⟨i, rfl, w⟩ := asL_ex w
      exact ⟨i, e1, w⟩
    exact ⟨he, fun s Q w => by simp only [wpT]; exact dT _ he s Q w, fun _ _ w => w.elim, fun s Q w => by simp only [wpO]; exact dO _ he s Q w⟩
  | call f as ih =>
    have he : ∀ s Q, (ev C (.call f as)).E s Q → wpE C (.call f as) s Q := fun s Q w => by
      simp only [wpE]
      refine wpA_mono hC (ih.2.2.1 _ _ w) fun rs s1 w => ?_
      obtain ⟨os, e1, w⟩ := ob_ex w
      obtain ⟨nd, w⟩ := sure_ex w
      exact ⟨os, e1, apart_nd nd, hC _ _ _ _ (fun r l w => backK_ex w) w⟩
    exact ⟨he, fun s Q w => by simp only [wpT]; exact dT _ he s Q w, fun _ _ w => w.elim, fun s Q w => by simp only [wpO]; exact dO _ he s Q w⟩
  | blt b as ih =>
    have he : ∀ s Q, (ev C (.blt b as)).E s Q → wpE C (.blt b as) s Q := fun s Q w => by
      simp only [wpE]
      exact wpA_mono hC (ih.2.2.1 _ _ w) fun rs s1 w => ob_ex w
    exact ⟨he, fun s Q w => by simp only [wpT]; exact dT _ he s Q w, fun _ _ w => w.elim, fun s Q w => by simp only [wpO]; exact dO _ he s Q w⟩
  | isi a t iha =>
    have he : ∀ s Q, (ev C (.isi a t)).E s Q → wpE C (.isi a t) s Q := fun s Q w => by
      simp only [wpE]
      exact wpE_mono hC (iha.1 _ _ w) fun ra s1 w => ob_ex w
    exact ⟨he, fun s Q w => by simp only [wpT]; exact dT _ he s Q w, fun _ _ w => w.elim, fun s Q w => by simp only [wpO]; exact dO _ he s Q w⟩
  | mth m o as iho ih =>
    have he : ∀ s Q, (ev C (.mth m o as)).E s Q → wpE C (.mth m o as) s Q := fun s Q w => by
      simp only [wpE]
      refine wpE_mono hC (iho.1 _ _ w) fun ro s1 w => ?_
      obtain ⟨x0, e0, w⟩ := ob_ex w
      obtain ⟨rc, w⟩ := sure_ex w
      refine ⟨x0, e0, rc, wpA_mono hC (ih.2.2.1 _ _ w) fun rs s2 w => ?_⟩
      obtain ⟨x, e1, w⟩ := ob_ex w
      obtain ⟨y, e2, w⟩ := ob_ex w
      exact ⟨x, y, e1, e2, w⟩
    exact ⟨he, fun s Q w => by simp only [wpT]; exact dT _ he s Q w, fun _ _ w => w.elim, fun s Q w => by simp only [wpO]; exact dO _ he s Q w⟩
  | chg m i as ih =>
    have he : ∀ s Q, (ev C (.chg m i as)).E s Q → wpE C (.chg m i as) s Q := fun s Q w => by
      simp only [wpE]
      obtain ⟨p, xs, e1, w⟩ := ownL_ex w
      refine ⟨⟨p, xs, e1⟩, wpA_mono hC (ih.2.2.1 _ _ w) fun rs s1 w => ?_⟩
      obtain ⟨d, e2, w⟩ := ob2_ex w
      obtain ⟨p, xs, e3, w⟩ := ownL_ex w
      exact ⟨d.1, d.2, e2, p, xs, e3, muta_mono (fun x ys w => by rw [setK_eq] at w; exact w) w⟩
    exact ⟨he, fun s Q w => by simp only [wpT]; exact dT _ he s Q w, fun _ _ w => w.elim, fun s Q w => by simp only [wpO]; exact dO _ he s Q w⟩
  | srt a iha =>
    have he : ∀ s Q, (ev C (.srt a)).E s Q → wpE C (.srt a) s Q := fun s Q w => by
      simp only [wpE]
      refine wpE_mono hC (iha.1 _ _ w) fun ra s1 w => ?_
      obtain ⟨x, e1, w⟩ := ob_ex w
      obtain ⟨i, rfl, w⟩ := asL_ex w
      exact ⟨i, e1, w⟩
    exact ⟨he, fun s Q w => by simp only [wpT]; exact dT _ he s Q w, fun _ _ w => w.elim, fun s Q w => by simp only [wpO]; exact dO _ he s Q w⟩
  | srr a iha =>
    have he : ∀ s Q, (ev C (.srr a)).E s Q → wpE C (.srr a) s Q := fun s Q w => by
      simp only [wpE]
      refine wpE_mono hC (iha.1 _ _ w) fun ra s1 w => ?_
      obtain ⟨x, e1, w⟩ := ob_ex w
      obtain ⟨i, rfl, w⟩ := asL_ex w
      exact ⟨i, e1, w⟩
    exact ⟨he, fun s Q w => by simp only [wpT]; exact dT _ he s Q w, fun _ _ w => w.elim, fun s Q w => by simp only [wpO]; exact dO _ he s Q w⟩
  | fz a iha =>
    have he : ∀ s Q, (ev C (.fz a)).E s Q → wpE C (.fz a) s Q := fun s Q w => by
      simp only [wpE]
      refine wpE_mono hC (iha.1 _ _ w) fun ra s1 w => ?_
      obtain ⟨p, e1, w⟩ := ob2_ex w
      exact ⟨p.1, p.2, e1, w⟩
    exact ⟨he, fun s Q w => w.elim, fun _ _ w => w.elim, fun s Q w => by simp only [wpO]; exact dO _ he s Q w⟩
  | comp own t k as c e iha ihc ihe =>
    have he : ∀ s Q, (ev C (.comp own t k as c e)).E s Q → wpE C (.comp own t k as c e) s Q := fun s Q w => by
      simp only [wpE]
      refine wpA_mono hC (iha.2.2.1 _ _ w) fun rs s1 w => ?_
      obtain ⟨ds, e1, w⟩ := ob_ex w
      exact ⟨ds, e1, items_mono (fun xs w => compL_imp (hC := hC) ihc.2.1 ihe.1 (fun s Q Q' h w => wpT_mono hC w h) (fun s Q Q' h w => wpE_mono hC w h) _ _ _ w) w⟩
    exact ⟨he, fun s Q w => by simp only [wpT]; exact dT _ he s Q w, fun _ _ w => w.elim, fun s Q w => by simp only [wpO]; exact dO _ he s Q w⟩
theorem forL_imp {t : Tg} {b b' : En → St → Prop} {ul : St → St} (hb : ∀ D s, b D s → b' D s) (mb : ∀ D D' s, En.Le D D' → b' D s → b' D' s) {D : En} : ∀ xs s, forL t b ul D xs s → forL t b' ul D xs s
  | [], s, w => by simp only [forL] at w ⊢; exact w
  | x :: xs, s, w => by
    simp only [forL] at w ⊢
    obtain ⟨s1, e, w⟩ := w
    refine ⟨s1, e, ?_⟩
    refine mb _ _ _ ?_ (hb _ _ w)
    exact ⟨fun _ q => forL_imp hb mb xs _ q, fun _ _ q => q, fun _ q => q, fun _ q => forL_imp hb mb xs _ q⟩
theorem rS_of : ∀ (b : S) (D : En) (s : St), rS C b D s → wpS C b D s := by
  intro b
  induction b with
  | skip => intro D s w; simp only [wpS]; exact w
  | seq a b iha ihb =>
    intro D s w
    simp only [wpS]
    refine wpS_mono hC a _ _ _ ?_ (iha _ _ w)
    exact ⟨fun s1 w => ihb _ _ w, fun _ _ w => w, fun _ w => w, fun _ w => w⟩
  | asg t e =>
    intro D s w
    cases t with
    | nm i =>
      simp only [wpS]
      refine wpE_mono hC ((ev_of hC e).1 _ _ w) fun r s1 w => ?_
      obtain ⟨p, e1, w⟩ := ob2_ex w
      obtain ⟨q, e2, w⟩ := putK_ex w
      exact ⟨p.1, p.2, q, e1, e2, w⟩
    | _ =>
      simp only [wpS]
      refine wpE_mono hC ((ev_of hC e).1 _ _ w) fun r s1 w => ?_
      obtain ⟨p, e1, w⟩ := ob2_ex w
      obtain ⟨q, e2, w⟩ := setTgK_ex w
      exact ⟨p.1, p.2, q, e1, e2, w⟩
  | par i j a b =>
    intro D s w
    simp only [wpS]
    refine wpE_mono hC ((ev_of hC a).1 _ _ w) fun ra s1 w => wpE_mono hC ((ev_of hC b).1 _ _ w) fun rb s2 w => ?_
    obtain ⟨p, e1, w⟩ := ob2_ex w
    obtain ⟨q, e2, w⟩ := ob2_ex w
    obtain ⟨s5, e3, w⟩ := putK_ex w
    obtain ⟨s6, e4, w⟩ := putK_ex w
    exact ⟨p.1, q.1, p.2, q.2, e1, e2, s5, s6, e3, e4, w⟩
  | set o i e =>
    intro D s w
    simp only [wpS]
    refine wpE_mono hC ((ev_of hC e).1 _ _ w) fun r s1 w => ?_
    obtain ⟨p, xs, e1, w⟩ := ownL_ex w
    refine ⟨⟨p, xs, e1⟩, wpE_mono hC ((ev_of hC i).1 _ _ w) fun ri s2 w => ?_⟩
    obtain ⟨p, e2, w⟩ := ob2_ex w
    obtain ⟨k, e3, w⟩ := ob_ex w
    obtain ⟨k, rfl, w⟩ := asI_ex w
    obtain ⟨b, xs, e4, j, e5, w⟩ := ownL_ex w
    rw [setK_eq] at w
    exact ⟨p.1, p.2, e2, k, b, xs, j, e3, e4, e5, w⟩
  | aug i op e =>
    intro D s w
    simp only [wpS]
    obtain ⟨x, e1, w⟩ := datL_ex w
    refine ⟨x, e1, wpE_mono hC ((ev_of hC e).1 _ _ w) fun r s1 w => ?_⟩
    obtain ⟨y, e2, w⟩ := ob_ex w
    exact ⟨y, e2, iop_mono (fun z w => putK_ex w) w⟩
  | augs o i op e =>
    intro D s w
    simp only [wpS]
    obtain ⟨p, xs, e1, w⟩ := ownL_ex w
    refine ⟨⟨p, xs, e1⟩, wpE_mono hC ((ev_of hC i).1 _ _ w) fun ri s1 w => ?_⟩
    obtain ⟨k, e2, w⟩ := ob_ex w
    obtain ⟨k, rfl, w⟩ := asI_ex w
    obtain ⟨p, xs, e3, x, e4, w⟩ := ownL_ex w
    refine ⟨k, p, xs, x, e2, e3, e4, wpE_mono hC ((ev_of hC e).1 _ _ w) fun r s2 w => ?_⟩
    obtain ⟨y, e5, w⟩ := ob_ex w
    refine ⟨y, e5, iop_mono (fun z w => ?_) w⟩
    obtain ⟨w', rfl, w⟩ := asD_ex w
    obtain ⟨p2, ys, e6, j, e7, w⟩ := ownL_ex w
    rw [setK_eq] at w
    exact ⟨w', p2, ys, j, rfl, e6, e7, w⟩
  | ex e => intro D s w; simp only [wpS]; exact (ev_of hC e).1 _ _ w
  | ite c a b iha ihb =>
    intro D s w
    simp only [wpS]
    refine wpT_mono hC ((ev_of hC c).2.1 _ _ w) fun k s1 w => ?_
    cases k with
    | true => exact iha _ _ w
    | false => exact ihb _ _ w
  | for_ t k as b ih =>
    intro D s w
    simp only [wpS]
    refine wpA_mono hC ((ev_of hC as).2.2.1 _ _ w) fun rs s1 w => ?_
    obtain ⟨ds, e1, w⟩ := ob_ex w
    exact ⟨ds, e1, items_mono (fun xs w => forL_imp (hC := hC) (fun D s q => ih D s (by rw [normK_eq] at q; exact q)) (fun D D' s h w => wpS_mono hC b _ _ _ h w) _ _ w) w⟩
  | while_ c b ih =>
    intro D s w
    simp only [wpS]
    obtain ⟨W, h0, h⟩ := w
    refine ⟨W, h0, fun m s q => wpT_mono hC ((ev_of hC c).2.1 _ _ (h m s q)) fun k s1 w => ?_⟩
    cases k with
    | true => exact ih _ _ w
    | false => exact w
  | ret e => intro D s w; simp only [wpS]; exact (ev_of hC e).1 _ _ w
  | retn => intro D s w; simp only [wpS]; exact w
  | brk => intro D s w; simp only [wpS]; exact w
  | cnt => intro D s w; simp only [wpS]; exact w
  | never => intro D s w; simp only [wpS]; exact w
  | asgd i e =>
    intro D s w
    simp only [wpS]
    refine wpE_mono hC ((ev_of hC e).1 _ _ w) fun r s1 w => ?_
    obtain ⟨p, e1, w⟩ := ob2_ex w
    obtain ⟨q, e2, w⟩ := putK_ex w
    exact ⟨p.1, p.2, q, e1, e2, w⟩
end
def rEnds (np : Nat) (Q : O → List (Option O) → Prop) : En where
  nx := fun s => Q (.d .non) (s.take np)
  rt := fun r s => ob2 (leave r s) fun o s2 => Q o (s2.take np)
theorem run_call {T : Tab} {k : Nat} {f : Str} {os : List O} {Q : O → List (Option O) → Prop} {np nn : Nat} {b : S} (h : T f = some ⟨np, nn, b⟩) (l : os.length = np) (w : normK (os.map some ++ List.replicate (nn - np) none) fun s => rS (call T k) b (rEnds np Q) s) : call T (k + 1) f os Q := by
  rw [normK_eq] at w
  refine ⟨_, h, l, wpS_mono (call_mono T k) b _ _ _ ?_ (rS_of (call_mono T k) b _ _ w)⟩
  refine ⟨fun s q => q, fun r s q => ?_, fun s q => q, fun s q => q⟩
  obtain ⟨p, e, q⟩ := ob2_ex q
  exact ⟨p.1, p.2, e, q⟩
end Itp

/-! Draw: the drawing layer of every law. -/
namespace Itp
open PySem
def handB : S := .ret (.lst (.cons (.blt .list (.cons (.slc (.var 0) .nop (.cst (.int 63))) .nil)) (.cons (.cst (.int 0)) (.cons (.cst (.int 0)) (.cons (.cst (.int 0)) (.cons (.cst (.int 20011)) (.cons (.cst (.int 40009)) .nil)))))))
def stepB : S := .seq (.set 0 (.cst (.int 4)) (.bin .Mod (.bin .Mult (.idx (.var 0) (.cst (.int 4))) (.cst (.int 48271))) (.cst (.int 2147483647)))) (.seq (.set 0 (.cst (.int 5)) (.bin .Mod (.bin .Mult (.idx (.var 0) (.cst (.int 5))) (.cst (.int 40692))) (.cst (.int 2147483399)))) (.ret (.bin .Add (.idx (.var 0) (.cst (.int 4))) (.idx (.var 0) (.cst (.int 5))))))
def takeB : S := .seq (.asg (.nm 1) (.cst (.int 0))) (.seq (.ite (.cmp .Lt (.idx (.var 0) (.cst (.int 1))) (.blt .len (.cons (.idx (.var 0) (.cst (.int 0))) .nil))) (.asg (.nm 1) (.blt .abs (.cons (.idx (.idx (.var 0) (.cst (.int 0))) (.idx (.var 0) (.cst (.int 1)))) .nil))) .skip) (.seq (.augs 0 (.cst (.int 1)) .Add (.cst (.int 1))) (.seq (.ite (.cmp .GtE (.var 1) (.bin .Pow (.cst (.int 10)) (.cst (.int 18)))) (.set 0 (.cst (.int 2)) (.var 1)) (.set 0 (.cst (.int 3)) (.cst (.int 7)))) (.seq (.set 0 (.cst (.int 4)) (.bin .Add (.bin .Mod (.bin .Add (.idx (.var 0) (.cst (.int 4))) (.bin .Mod (.var 1) (.cst (.int 2147483587)))) (.cst (.int 2147483646))) (.cst (.int 1)))) (.seq (.set 0 (.cst (.int 5)) (.bin .Add (.bin .Mod (.bin .Add (.bin .Mult (.idx (.var 0) (.cst (.int 5))) (.cst (.int 3))) (.bin .Mod (.var 1) (.cst (.int 1000003)))) (.cst (.int 2147483398))) (.cst (.int 1)))) (.seq (.ex (.call "_law_step" (.cons (.var 0) .nil))) (.ex (.call "_law_step" (.cons (.var 0) .nil)))))))))
def drawB : S := .seq (.ite (.and_ (.cmp .Eq (.idx (.var 0) (.cst (.int 2))) (.cst (.int 0))) (.cmp .Eq (.idx (.var 0) (.cst (.int 3))) (.cst (.int 0)))) (.ex (.call "_law_take" (.cons (.var 0) .nil))) .skip) (.seq (.ite (.cmp .Gt (.idx (.var 0) (.cst (.int 2))) (.cst (.int 0))) (.seq (.asg (.nm 2) (.bin .Mod (.idx (.var 0) (.cst (.int 2))) (.var 1))) (.seq (.set 0 (.cst (.int 2)) (.bin .FloorDiv (.idx (.var 0) (.cst (.int 2))) (.var 1))) (.ret (.var 2)))) .skip) (.seq (.augs 0 (.cst (.int 3)) .Sub (.cst (.int 1))) (.seq (.asg (.nm 3) (.call "_law_step" (.cons (.var 0) .nil))) (.seq (.asg (.nm 4) (.cst (.int 4294967296))) (.seq (.while_ (.cmp .Lt (.var 4) (.var 1)) (.seq (.asg (.nm 3) (.bin .Add (.bin .Mult (.var 3) (.cst (.int 4294967296))) (.call "_law_step" (.cons (.var 0) .nil)))) (.asg (.nm 4) (.bin .Mult (.var 4) (.cst (.int 4294967296)))))) (.ret (.bin .Mod (.var 3) (.var 1))))))))
/-- the drawing layer stands in the table -/
structure DrawT (T : Tab) : Prop where
  hand : T "_law_hand" = some ⟨1, 1, handB⟩
  step : T "_law_step" = some ⟨1, 1, stepB⟩
  take : T "_law_take" = some ⟨1, 2, takeB⟩
  draw : T "_law_draw" = some ⟨2, 5, drawB⟩
def hand (ns : List Int) (p c r s1 s2 : Int) : List D := [.lst (ns.map .int), .int p, .int c, .int r, .int s1, .int s2]
/-- a hand -/
def Hand (h : List D) : Prop := ∃ ns p c r s1 s2, h = hand ns p c r s1 s2 ∧ 0 ≤ p ∧ 0 ≤ c ∧ 0 ≤ r
theorem if_b {b : Bool} {A B : Prop} (h1 : b = true → A) (h2 : b = false → B) : if b = true then A else B := by
  cases b with
  | true => exact h1 rfl
  | false => exact h2 rfl
theorem if_d {P : Prop} [Decidable P] {A B : Prop} (h1 : P → A) (h2 : ¬ P → B) : if decide P = true then A else B := if_b (fun e => h1 (of_decide_eq_true e)) fun e => h2 (of_decide_eq_false e)
theorem if_nd {P : Prop} [Decidable P] {A B : Prop} (h1 : ¬ P → A) (h2 : P → B) : if (!decide P) = true then A else B := if_b (fun e => h1 (by simpa using e)) fun e => h2 (by simpa using e)
def SpStep (C : Ct) : Prop := ∀ ns p c r s1 s2 Q, (∀ v s1' s2', 0 ≤ v → Q (.d (.int v)) [some (.l true (hand ns p c r s1' s2'))]) → C "_law_step" [.l true (hand ns p c r s1 s2)] Q
theorem step_ok {T : Tab} (t : DrawT T) (k : Nat) : SpStep (call T (k + 1)) := by
  intro ns p c r s1 s2 Q h
  refine run_call t.step rfl ?_
  refine ⟨_, rfl, .inr (.inl (by decide)), by decide, _, rfl, _, rfl, .inr (.inl (by decide)), by decide, _, rfl, _, rfl, _, rfl, h _ _ _ ?_⟩
  have h1 := Int.emod_nonneg (s1 * 48271) (b := 2147483647) (by decide)
  have h2 := Int.emod_nonneg (s2 * 40692) (b := 2147483399) (by decide)
  exact Int.add_nonneg h1 h2
theorem atI_map {ns : List Int} {p : Int} (h0 : 0 ≤ p) (h1 : p < ns.length) : ∃ z, L2.atI (ns.map D.int) p = some (.int z) := by
  obtain ⟨n, rfl⟩ := Int.eq_ofNat_of_zero_le h0
  have hn : n < ns.length := by omega
  exact ⟨ns[n], L2.atI_nat (by rw [List.getElem?_map, List.getElem?_eq_getElem hn]; rfl)⟩
theorem eqv_int (a b : Int) : PyData.eqv (D.int a).py (D.int b).py = decide (a = b) := by
  simp only [D.py, PyData.eqv]
  by_cases h : a = b
  · rw [decide_eq_true h]; simpa using h
  · rw [decide_eq_false h]; simpa using h
theorem if_eqi {a b : Int} {A B : Prop} (h1 : a = b → A) (h2 : a ≠ b → B) : if PyData.eqv (D.int a).py (D.int b).py = true then A else B := by
  rw [eqv_int]; exact if_d h1 h2
theorem if_nei {a b : Int} {A B : Prop} (h1 : a ≠ b → A) (h2 : a = b → B) : if (!PyData.eqv (D.int a).py (D.int b).py) = true then A else B := by
  rw [eqv_int]; exact if_nd h1 h2
def SpTake (C : Ct) : Prop := ∀ ns p s1 s2 Q, 0 ≤ p → (∀ p' c' r' s1' s2', 0 ≤ p' → 0 ≤ c' → 0 ≤ r' → (0 < c' ∨ 0 < r') → Q (.d .non) [some (.l true (hand ns p' c' r' s1' s2'))]) → C "_law_take" [.l true (hand ns p 0 0 s1 s2)] Q
theorem take_ok1 {T : Tab} (t : DrawT T) (k : Nat) : SpTake (call T (k + 2)) := by
  intro ns p s1 s2 Q hp h
  have st := step_ok t k
  refine run_call t.take rfl ?_
  -- the two steps at the end
  have last : ∀ p' c' r' s1' s2' cell, 0 ≤ p' → 0 ≤ c' → 0 ≤ r' → (0 < c' ∨ 0 < r') → rS (call T (k + 1)) (.seq (.set 0 (.cst (.int 4)) (.bin .Add (.bin .Mod (.bin .Add (.idx (.var 0) (.cst (.int 4))) (.bin .Mod (.var 1) (.cst (.int 2147483587)))) (.cst (.int 2147483646))) (.cst (.int 1)))) (.seq (.set 0 (.cst (.int 5)) (.bin .Add (.bin .Mod (.bin .Add (.bin .Mult (.idx (.var 0) (.cst (.int 5))) (.cst (.int 3))) (.bin .Mod (.var 1) (.cst (.int 1000003)))) (.cst (.int 2147483398))) (.cst (.int 1)))) (.seq (.ex (.call "_law_step" (.cons (.var 0) .nil))) (.ex (.call "_law_step" (.cons (.var 0) .nil))))))
      (rEnds 1 Q) [some (.l true (hand ns p' c' r' s1' s2')), some (.d (.int cell))] := by
    intro p' c' r' s1' s2' cell h1 h2 h3 h4
    refine ⟨_, rfl, by decide, by decide, _, rfl, _, rfl, .inr (.inl (by decide)), by decide, by decide, _, rfl, ?_⟩
    refine st _ _ _ _ _ _ _ fun v a b hv => ?_
    refine st _ _ _ _ _ _ _ fun v a b hv => ?_
    exact h _ _ _ _ _ h1 h2 h3 h4
  have mid : ∀ cell : Int, 0 ≤ cell → rS (call T (k + 1)) (.seq (.augs 0 (.cst (.int 1)) .Add (.cst (.int 1))) (.seq (.ite (.cmp .GtE (.var 1) (.bin .Pow (.cst (.int 10)) (.cst (.int 18)))) (.set 0 (.cst (.int 2)) (.var 1)) (.set 0 (.cst (.int 3)) (.cst (.int 7)))) (.seq (.set 0 (.cst (.int 4)) (.bin .Add (.bin .Mod (.bin .Add (.idx (.var 0) (.cst (.int 4))) (.bin .Mod (.var 1) (.cst (.int 2147483587)))) (.cst (.int 2147483646))) (.cst (.int 1)))) (.seq (.set 0 (.cst (.int 5)) (.bin .Add (.bin .Mod (.bin .Add (.bin .Mult (.idx (.var 0) (.cst (.int 5))) (.cst (.int 3))) (.bin .Mod (.var 1) (.cst (.int 1000003)))) (.cst (.int 2147483398))) (.cst (.int 1)))) (.seq (.ex (.call "_law_step" (.cons (.var 0) .nil))) (.ex (.call "_law_step" (.cons (.var 0) .nil))))))))
      (rEnds 1 Q) [some (.l true (hand ns p 0 0 s1 s2)), some (.d (.int cell))] := by
    intro cell hc
    refine ⟨_, rfl, _, rfl, ⟨by decide, by decide, by decide⟩, ?_⟩
    refine if_d (fun hge => ?_) fun hlt => ?_
    · refine ⟨_, rfl, ?_⟩
      show rS _ _ _ _
      refine last (p + 1) cell 0 s1 s2 cell (by omega) hc (by decide) (.inl ?_)
      have : (10 : Int) ^ (18 : Int).toNat = 1000000000000000000 := by decide
      omega
    · refine ⟨_, rfl, ?_⟩
      show rS _ _ _ _
      exact last (p + 1) 0 7 s1 s2 cell (by omega) (by decide) (by decide) (.inr (by decide))
  refine ⟨_, rfl, _, rfl, ?_⟩
  refine if_d (fun hlt => ?_) fun hge => ?_
  · have hl : p < ns.length := by simpa using hlt
    obtain ⟨z, hz⟩ := atI_map hp hl
    refine ⟨_, rfl, _, rfl, _, hz, ?_⟩
    show rS _ _ _ _
    refine mid _ ?_
    split <;> omega
  · show rS _ _ _ _
    exact mid 0 (by decide)
theorem take_ok2 {T : Tab} (t : DrawT T) {k : Nat} (h : 2 ≤ k) : SpTake (call T k) := by
  obtain ⟨j, rfl⟩ := Nat.exists_eq_add_of_le h
  rw [Nat.add_comm]
  exact take_ok1 t j
def SpDraw (C : Ct) : Prop := ∀ h n Q, Hand h → 0 < n → n.natAbs < 2 ^ 8000 → (∀ v h', Hand h' → 0 ≤ v → v < n → Q (.d (.int v)) [some (.l true h'), some (.d (.int n))]) → C "_law_draw" [.l true h, .d (.int n)] Q
theorem draw_ok1 {T : Tab} (t : DrawT T) (k : Nat) : SpDraw (call T (k + 3)) := by
  intro h n Q hh hn hb hq
  obtain ⟨ns, p, c, r, s1, s2, rfl, hp, hc, hr⟩ := hh
  have st := step_ok t (k + 1)
  have tk := take_ok1 t k
  refine run_call t.draw rfl ?_
  have tail : ∀ p c r s1 s2 : Int, 0 ≤ p → 0 ≤ c → 0 ≤ r → (0 < c ∨ 0 < r) → rS (call T (k + 2)) (.seq (.ite (.cmp .Gt (.idx (.var 0) (.cst (.int 2))) (.cst (.int 0))) (.seq (.asg (.nm 2) (.bin .Mod (.idx (.var 0) (.cst (.int 2))) (.var 1))) (.seq (.set 0 (.cst (.int 2)) (.bin .FloorDiv (.idx (.var 0) (.cst (.int 2))) (.var 1))) (.ret (.var 2)))) .skip) (.seq (.augs 0 (.cst (.int 3)) .Sub (.cst (.int 1))) (.seq (.asg (.nm 3) (.call "_law_step" (.cons (.var 0) .nil))) (.seq (.asg (.nm 4) (.cst (.int 4294967296))) (.seq (.while_ (.cmp .Lt (.var 4) (.var 1)) (.seq (.asg (.nm 3) (.bin .Add (.bin .Mult (.var 3) (.cst (.int 4294967296))) (.call "_law_step" (.cons (.var 0) .nil)))) (.asg (.nm 4) (.bin .Mult (.var 4) (.cst (.int 4294967296)))))) (.ret (.bin .Mod (.var 3) (.var 1))))))))
      (rEnds 2 Q) [some (.l true (hand ns p c r s1 s2)), some (.d (.int n)), none, none, none] := by
    intro p c r s1 s2 hp hc hr hcr
    refine ⟨_, rfl, ?_⟩
    refine if_d (fun hg => ?_) fun hg => ?_
    · refine ⟨_, rfl, hn, _, rfl, ⟨hn, hb⟩, _, rfl, ?_⟩
      exact hq _ _ ⟨ns, p, c / n, r, s1, s2, rfl, hp, Int.ediv_nonneg hc (Int.le_of_lt hn), hr⟩ (Int.emod_nonneg _ (by omega)) (Int.emod_lt_of_pos _ hn)
    · have hr1 : 0 < r := by omega
      refine ⟨_, rfl, _, rfl, ?_⟩
      refine st _ _ _ _ _ _ _ fun v a b hv => ?_
      refine ⟨fun m s => ∃ (sz v a b : Int), m = (n - sz).toNat ∧ 0 < sz ∧ s = [some (.l true (hand ns p c (r - 1) a b)), some (.d (.int n)), none, some (.d (.int v)), some (.d (.int sz))], ⟨_, 4294967296, v, a, b, rfl, by decide, rfl⟩, ?_⟩
      rintro m s ⟨sz, v, a, b, rfl, hsz, rfl⟩
      refine if_d (fun hlt => ?_) fun hge => ?_
      · refine ⟨.inr (.inl (by decide)), ?_⟩
        refine st _ _ _ _ _ _ _ fun v' a' b' hv' => ?_
        refine ⟨.inr (.inl (by decide)), _, ?_, sz * 4294967296, _, a', b', rfl, by omega, rfl⟩
        omega
      · refine ⟨hn, ?_⟩
        exact hq _ _ ⟨ns, p, c, r - 1, a, b, rfl, hp, hc, by omega⟩ (Int.emod_nonneg _ (by omega)) (Int.emod_lt_of_pos _ hn)
  refine ⟨_, rfl, ?_⟩
  refine if_d (fun e1 => ?_) fun e1 => ?_
  · refine ⟨_, rfl, ?_⟩
    refine if_d (fun e2 => ?_) fun e2 => ?_
    · subst e1 e2
      refine tk _ _ _ _ _ hp fun p' c' r' a b h1 h2 h3 h4 => ?_
      show rS _ _ _ _
      exact tail p' c' r' a b h1 h2 h3 h4
    · show rS _ _ _ _
      exact tail p c r s1 s2 hp hc hr (by omega)
  · show rS _ _ _ _
    exact tail p c r s1 s2 hp hc hr (by omega)
theorem draw_ok {T : Tab} (t : DrawT T) {k : Nat} (h : 3 ≤ k) : SpDraw (call T k) := by
  obtain ⟨j, rfl⟩ := Nat.exists_eq_add_of_le h
  rw [Nat.add_comm]
  exact draw_ok1 t j
/-- the hand at the law's start -/
theorem hand_ok {T : Tab} (t : DrawT T) {k : Nat} (hk : 1 ≤ k) (ns : List Int) (Q : O → List (Option O) → Prop) (h : ∀ hd, Hand hd → Q (.l false hd) [some (.d (.frz (ns.map .int)))]) : call T k "_law_hand" [.d (.frz (ns.map .int))] Q := by
  obtain ⟨j, rfl⟩ := Nat.exists_eq_add_of_le hk
  rw [Nat.add_comm]
  refine run_call t.hand rfl ?_
  refine ⟨Nat.le_of_ble_eq_true rfl, ?_⟩
  refine h _ ?_
  refine ⟨cut ns none (some 63), 0, 0, 0, 20011, 40009, ?_, by decide, by decide, by decide⟩
  simp only [hand, cut, List.map_take, List.map_drop, List.length_map]
end Itp

/-! Lib: loops by an invariant; equality of data; texts. -/
namespace Itp
open PySem
theorem lvl {P : Nat → Prop} (d : Nat) (h : ∀ j, P (j + d)) (k : Nat) (hk : d ≤ k) : P k := by
  obtain ⟨j, rfl⟩ := Nat.exists_eq_add_of_le hk
  rw [Nat.add_comm]
  exact h j
theorem forL_inv {t : Tg} {body : En → St → Prop} {ul : St → St} {E : En} (xs : List D) (I : Nat → St → Prop)
    (step : ∀ i x s (N : St → Prop), (∀ s', I (i + 1) s' → N s') → xs[i]? = some x → I i s → ∃ s1, setTg t x s = some s1 ∧ body { nx := N, ct := N, bk := fun s2 => E.nx (ul s2), rt := fun r s2 => E.rt r (ul s2) } s1)
    (fin : ∀ s, I xs.length s → E.nx (ul s)) (s : St) (h : I 0 s) : forL t body ul E xs s := by
  have go : ∀ (b a : List D) (s : St), xs = a ++ b → I a.length s → forL t body ul E b s := by
    intro b
    induction b with
    | nil =>
      intro a s e h
      rw [List.append_nil] at e
      subst e
      simp only [forL]
      exact fin s h
    | cons x b ih =>
      intro a s e h
      simp only [forL]
      refine step a.length x s _ (fun s' h' => ?_) (by rw [e]; simp) h
      exact ih (a ++ [x]) s' (by rw [e]; simp) (by simpa using h')
  exact go xs [] s rfl h
theorem compL_inv {t : Tg} {own : List Nat} {s0 : St} {cond : St → (Bool → St → Prop) → Prop} {elt : St → (R → St → Prop) → Prop} {ul : St → St} {Q : R → St → Prop} (xs : List D) (I : Nat → List D → St → Prop)
    (step : ∀ i x acc s (N : List D → St → Prop), (∀ acc' s', I (i + 1) acc' s' → N acc' s') → xs[i]? = some x → I i acc s → ∃ s1, setTg t x (wipe s own) = some s1 ∧ cond s1 fun b s2 =>
      if b = true then elt s2 fun r s3 => ∃ d s4, froz r s3 = some (d, s4) ∧ acc.length < line ∧ N (acc ++ [d]) (mend s0 s4 own) else N acc (mend s0 s2 own))
    (fin : ∀ acc s, I xs.length acc s → Q (.v (.l false acc)) (ul s)) (s : St) (h : I 0 [] s) : compL t own s0 cond elt ul Q xs [] s := by
  have go : ∀ (b a : List D) (acc : List D) (s : St), xs = a ++ b → I a.length acc s → compL t own s0 cond elt ul Q b acc s := by
    intro b
    induction b with
    | nil =>
      intro a acc s e h
      rw [List.append_nil] at e
      subst e
      simp only [compL]
      exact fin acc s h
    | cons x b ih =>
      intro a acc s e h
      simp only [compL]
      refine step a.length x acc s _ (fun acc' s' h' => ?_) (by rw [e]; simp) h
      exact ih (a ++ [x]) acc' s' (by rw [e]; simp) (by simpa using h')
  exact go xs [] [] s rfl h
theorem eqv_self {x : D} (h : x.ok) : PyData.eqv x.py x.py = true := PySem.SeqAt.eqv_refl _ (SeqAt.canLay_of_shaped h.2)
theorem pyAll_map (xs : List D) : D.pyAll xs = xs.map D.py := by
  induction xs with
  | nil => rfl
  | cons x xs ih => simp [D.pyAll, ih]
theorem plainAll_of {xs : List D} (h : ∀ x ∈ xs, x.plain = true) : D.plainAll xs = true := by
  induction xs with
  | nil => rfl
  | cons x xs ih => rw [D.plainAll, h x List.mem_cons_self, ih fun y hy => h y (List.mem_cons_of_mem _ hy)]; rfl
theorem layAll_of {xs : List D} (h : ∀ x ∈ xs, x.py.canLay0 = true) : PyData.canLayAll0 (D.pyAll xs) = true := by
  induction xs with
  | nil => rfl
  | cons x xs ih => rw [D.pyAll, PyData.canLayAll0, h x List.mem_cons_self, ih fun y hy => h y (List.mem_cons_of_mem _ hy)]; rfl
theorem depthAll_of {xs : List D} {n : Nat} (h : ∀ x ∈ xs, x.py.depth ≤ n) : PyData.depthAll (D.pyAll xs) ≤ n := by
  induction xs with
  | nil => exact Nat.zero_le _
  | cons x xs ih =>
    rw [D.pyAll, PyData.depthAll]
    exact Nat.max_le.mpr ⟨h x List.mem_cons_self, ih fun y hy => h y (List.mem_cons_of_mem _ hy)⟩
theorem ok_lst {xs : List D} {n : Nat} (hn : n < 64) (h : ∀ x ∈ xs, x.plain = true ∧ x.py.canLay0 = true ∧ x.py.depth ≤ n) : (D.lst xs).ok := by
  refine ⟨?_, ?_⟩
  · rw [D.plain]; exact plainAll_of fun x hx => (h x hx).1
  · unfold SeqAt.shaped
    rw [D.py, PyData.canLay0, PyData.depth, layAll_of fun x hx => (h x hx).2.1, Bool.true_and, decide_eq_true_eq]
    have := depthAll_of fun x hx => (h x hx).2.2
    omega
theorem ok_tup {xs : List D} {n : Nat} (hn : n < 64) (h : ∀ x ∈ xs, x.plain = true ∧ x.py.canLay0 = true ∧ x.py.depth ≤ n) : (D.tup xs).ok := by
  refine ⟨?_, ?_⟩
  · rw [D.plain]; exact plainAll_of fun x hx => (h x hx).1
  · unfold SeqAt.shaped
    rw [D.py, PyData.canLay0, PyData.depth, layAll_of fun x hx => (h x hx).2.1, Bool.true_and, decide_eq_true_eq]
    have := depthAll_of fun x hx => (h x hx).2.2
    omega
theorem sIx_nat' {n d k : Nat} (h : k ≤ n) : HT.sIx n d (some (k : Int)) = k := by rw [HT.sIx_nat]; omega
/-- cuts at whole numbers -/
theorem cut_from {α : Type} {xs : List α} {k : Nat} (h : k ≤ xs.length) : cut xs (some (k : Int)) none = xs.drop k := by
  unfold cut
  rw [sIx_nat' h, HT.sIx_none]
  exact List.take_of_length_le (by simp)
theorem cut_to {α : Type} {xs : List α} {k : Nat} (h : k ≤ xs.length) : cut xs none (some (k : Int)) = xs.take k := by
  unfold cut
  rw [sIx_nat' h, HT.sIx_none]
  simp
theorem cutS_eq (l : List Nat) (lo hi : Option Int) : L2.cutS ⟨l.toArray⟩ lo hi = ⟨(cut l lo hi).toArray⟩ := by
  unfold L2.cutS cut
  rfl
theorem atI_at {α : Type} {xs : List α} {k : Nat} {x : α} (h : xs[k]? = some x) : L2.atI xs (k : Int) = some x := L2.atI_nat h
theorem ixN_at {n j : Nat} (h : j < n) : L2.ixN n (j : Int) = some j := by
  unfold L2.ixN
  rw [if_pos (by omega), if_pos (by omega)]
  simp
/-- a slot that may be written -/
def fr (o : Option O) : Prop := o = none ∨ (∃ x, o = some (.d x)) ∨ ∃ xs, o = some (.l false xs)
theorem fr.n : fr none := .inl rfl
theorem fr.x {x : D} : fr (some (.d x)) := .inr (.inl ⟨x, rfl⟩)
theorem fr.o {xs : List D} : fr (some (.l false xs)) := .inr (.inr ⟨xs, rfl⟩)
theorem put_fr {s : St} {i : Nat} {o : Option O} {x : O} (h : s[i]? = some o) (f : fr o) : put i x s = some (s.set i (some x)) := by
  unfold put
  rcases f with rfl | ⟨y, rfl⟩ | ⟨y, rfl⟩ <;> rw [h]
theorem putK_of {s : St} {i : Nat} {o : Option O} {x : O} {K : St → Prop} (h : s[i]? = some o) (f : fr o) (q : setK s i (some x) K) : putK i x s K := by
  unfold putK
  rcases f with rfl | ⟨y, rfl⟩ | ⟨y, rfl⟩ <;> rw [h] <;> exact q
theorem ob_of {α : Type} {o : Option α} {x : α} {f : α → Prop} (h : o = some x) (q : f x) : ob o f := by rw [h]; exact q
theorem ob_asB {o : Option D} {b : Bool} {f : Bool → Prop} (h : o = some (.bl b)) (q : f b) : ob o fun x => asB x f := by rw [h]; exact q
theorem eqv_t {x : D} (h : x.ok) {A B : Prop} (a : A) : if PyData.eqv x.py x.py = true then A else B := by rw [eqv_self h, if_pos rfl]; exact a
theorem small {n : Int} (h0 : 0 < n) (h : n ≤ 10 ^ 70) : n.natAbs < 2 ^ 8000 := by
  have h1 : n.natAbs ≤ 10 ^ 70 := by
    have : ((10 : Int) ^ 70) = ((10 ^ 70 : Nat) : Int) := by decide +kernel
    omega
  refine Nat.lt_of_le_of_lt h1 (Nat.lt_of_lt_of_le (show 10 ^ 70 < 2 ^ 240 by decide +kernel) (Nat.pow_le_pow_right (by decide) (by decide)))
theorem ok_str {l : List Nat} (h : ∀ c ∈ l, c < 1114112) : (D.str ⟨l.toArray⟩).ok := by
  refine ⟨rfl, ?_⟩
  unfold SeqAt.shaped
  rw [D.py, PyData.canLay0, PyData.depth]
  simp [PyData.strOk]
  exact h
theorem join_chars : ∀ l : List Nat, Txt.join "" (l.map fun c => (⟨#[c]⟩ : Str)) = ⟨l.toArray⟩ := by
  intro l
  rw [TL.join_eq]
  induction l with
  | nil => rfl
  | cons c l ih =>
    cases l with
    | nil => rfl
    | cons d l =>
      have e : Str.join "" (((c :: d :: l).map fun c => (⟨#[c]⟩ : Str))) = (⟨#[c]⟩ : Str) ++ "" ++ Str.join "" ((d :: l).map fun c => (⟨#[c]⟩ : Str)) := rfl
      rw [e, ih]
      show (⟨#[c] ++ #[] ++ (d :: l).toArray⟩ : Str) = ⟨(c :: d :: l).toArray⟩
      congr 1
      simp
end Itp

namespace Itp
open PySem
def B_mark : S := .ret (.bin .FloorDiv (.bin .Add (.var 0) (.var 1)) (.cst (.int 2)))
def B_gap_at : S := .seq (.for_ (.tp (.cons (.nm 2) (.cons (.tp (.cons (.nm 3) (.cons (.nm 4) .nil))) .nil))) .enum (.cons (.idx (.var 0) (.cst (.int 1))) .nil) (.ite (.chn .Lt .Lt (.var 3) (.var 1) (.var 4)) (.ret (.var 2)) .skip)) (.ret (.cst .non))
def B_tells : S := .seq (.asg (.tp (.cons (.nm 2) (.cons (.nm 3) .nil))) (.var 0)) (.seq (.for_ (.tp (.cons (.nm 4) (.cons (.tp (.cons (.nm 5) (.cons (.nm 6) .nil))) .nil))) .enum (.cons (.var 3) .nil) (.ite (.cmp .LtE (.var 1) (.call "mark" (.cons (.fz (.var 5)) (.cons (.fz (.var 6)) .nil)))) (.ret (.idx (.var 2) (.var 4))) .skip)) (.ret (.idx (.var 2) (.neg (.cst (.int 1))))))
def B_l_names : S := .seq (.asg (.nm 2) (.cst (.str "abcdefghijklmnopqrstuvwxyz"))) (.seq (.asg (.nm 3) (.comp [7] (.nm 7) .range (.cons (.bin .Add (.cst (.int 1)) (.call "_law_draw" (.cons (.var 0) (.cons (.cst (.int 8)) .nil)))) .nil) .nop (.idx (.var 2) (.call "_law_draw" (.cons (.var 0) (.cons (.cst (.int 26)) .nil)))))) (.seq (.asg (.nm 4) (.call "_law_draw" (.cons (.var 0) (.cons (.fz (.blt .len (.cons (.var 3) .nil))) .nil)))) (.seq (.asg (.nm 5) (.call "_law_draw" (.cons (.var 0) (.cons (.cst (.int 26)) .nil)))) (.seq (.asg (.nm 6) (.lst .nil)) (.seq (.for_ (.nm 7) .range (.cons (.var 1) .nil) (.seq (.set 3 (.var 4) (.idx (.var 2) (.bin .Mod (.bin .Add (.var 5) (.bin .Mult (.cst (.int 5)) (.var 7))) (.cst (.int 26))))) (.ex (.chg .append 6 (.cons (.mth .join (.cst (.str "")) (.cons (.var 3) .nil)) .nil))))) (.seq (.ite (.and_ (.cmp .GtE (.blt .len (.cons (.var 3) .nil)) (.var 1)) (.cmp .Eq (.call "_law_draw" (.cons (.var 0) (.cons (.cst (.int 3)) .nil))) (.cst (.int 0)))) (.ret (.comp [7] (.nm 7) .range (.cons (.var 1) .nil) .nop (.slc (.idx (.var 6) (.cst (.int 0))) .nop (.bin .Add (.var 7) (.cst (.int 1)))))) .skip) (.ret (.var 6))))))))
def B_l_shuffled : S := .seq (.asg (.nm 2) (.blt .list (.cons (.var 1) .nil))) (.seq (.asg (.nm 3) (.lst .nil)) (.seq (.while_ (.cmp .NotEq (.var 2) (.lst .nil)) (.ex (.chg .append 3 (.cons (.chg .pop 2 (.cons (.call "_law_draw" (.cons (.var 0) (.cons (.fz (.blt .len (.cons (.var 2) .nil))) .nil))) .nil)) .nil)))) (.ret (.var 3))))
def B_turned : S := .seq (.asg (.tp (.cons (.nm 2) (.cons (.nm 3) .nil))) (.var 0)) (.seq (.ite (.cmp .Eq (.var 1) (.cst (.str "L"))) (.ret (.tup (.cons (.call "mark" (.cons (.fz (.var 2)) (.cons (.fz (.var 3)) .nil))) (.cons (.var 3) .nil)))) .skip) (.ret (.tup (.cons (.var 2) (.cons (.bin .Add (.call "mark" (.cons (.fz (.var 2)) (.cons (.fz (.var 3)) .nil))) (.cst (.int 1))) .nil)))))
def B_gaps_by : S := .seq (.asg (.nm 2) (.lst (.cons (.var 0) .nil))) (.seq (.for_ (.nm 3) .plain (.cons (.var 1) .nil) (.ex (.chg .append 2 (.cons (.call "turned" (.cons (.fz (.idx (.var 2) (.neg (.cst (.int 1))))) (.cons (.fz (.var 3)) .nil))) .nil)))) (.ret (.var 2)))
def B_held : S := .seq (.asg (.tp (.cons (.nm 2) (.cons (.nm 3) .nil))) (.idx (.call "gaps_by" (.cons (.fz (.var 0)) (.cons (.fz (.var 1)) .nil))) (.neg (.cst (.int 1))))) (.ret (.call "mark" (.cons (.fz (.var 2)) (.cons (.fz (.var 3)) .nil))))
def B_does : S := .seq (.asg (.tp (.cons (.nm 3) (.cons (.nm 4) (.cons (.nm 5) .nil)))) (.var 2)) (.seq (.asg (.nm 6) (.bin .Sub (.bin .Sub (.var 4) (.cst (.int 1))) (.var 5))) (.seq (.ite (.or_ (.cmp .Gt (.var 5) (.var 0)) (.cmp .Gt (.var 6) (.var 1))) (.ret (.cst (.bl false))) .skip) (.seq (.asg (.nm 7) (.bin .Add (.bin .Add (.var 0) (.var 1)) (.cst (.int 1)))) (.seq (.asg (.nm 8) (.cst (.int 1))) (.seq (.while_ (.and_ (.cmp .Gt (.var 3) (.cst (.int 0))) (.cmp .LtE (.var 8) (.var 7))) (.seq (.asg (.nm 8) (.bin .Mult (.cst (.int 2)) (.var 8))) (.aug 3 .Sub (.cst (.int 1))))) (.seq (.ite (.and_ (.cmp .LtE (.bin .Sub (.var 0) (.var 5)) (.bin .Add (.var 4) (.cst (.int 1)))) (.cmp .GtE (.bin .Mult (.bin .Add (.bin .Add (.var 0) (.var 6)) (.cst (.int 1))) (.var 8)) (.var 7))) (.ret (.cst (.bl true))) .skip) (.ret (.and_ (.cmp .LtE (.bin .Sub (.var 1) (.var 6)) (.var 4)) (.cmp .GtE (.bin .Mult (.bin .Add (.bin .Add (.var 5) (.var 1)) (.cst (.int 2))) (.var 8)) (.bin .Add (.var 7) (.cst (.int 1))))))))))))
def B_full : S := .seq (.asg (.nm 1) (.lst .nil)) (.seq (.while_ (.cmp .Gt (.var 0) (.cst (.int 1))) (.seq (.ex (.chg .append 1 (.cons (.var 0) .nil))) (.asg (.nm 0) (.bin .FloorDiv (.var 0) (.cst (.int 2)))))) (.seq (.asg (.tp (.cons (.nm 2) (.cons (.nm 3) .nil))) (.tup (.cons (.cst (.int 0)) (.cons (.cst (.int 0)) .nil)))) (.seq (.for_ (.nm 4) .rev (.cons (.var 1) .nil) (.ite (.cmp .Eq (.bin .Mod (.var 4) (.cst (.int 2))) (.cst (.int 1))) (.asg (.nm 2) (.bin .Add (.bin .Add (.var 2) (.bin .FloorDiv (.var 4) (.cst (.int 2)))) (.cst (.int 1)))) (.asg (.nm 3) (.bin .Add (.var 3) (.bin .FloorDiv (.var 4) (.cst (.int 2))))))) (.ret (.tup (.cons (.var 2) (.cons (.var 3) .nil)))))))
def B_moves_of : S := .seq (.asg (.nm 1) (.lst .nil)) (.seq (.while_ (.cmp .Gt (.var 0) (.cst (.int 1))) (.seq (.ite (.cmp .Eq (.bin .Mod (.var 0) (.cst (.int 2))) (.cst (.int 1))) (.ex (.chg .append 1 (.cons (.tup (.cons (.cst (.str "L")) (.cons (.bin .Add (.bin .FloorDiv (.var 0) (.cst (.int 2))) (.cst (.int 1))) .nil))) .nil))) (.ex (.chg .append 1 (.cons (.tup (.cons (.cst (.str "R")) (.cons (.bin .FloorDiv (.var 0) (.cst (.int 2))) .nil))) .nil)))) (.asg (.nm 0) (.bin .FloorDiv (.var 0) (.cst (.int 2)))))) (.ret (.var 1)))
def B_slack : S := .ret (.bin .Sub (.bin .Mult (.cst (.int 2)) (.idx (.call "twos" (.cons (.fz (.var 0)) .nil)) (.neg (.cst (.int 1))))) (.var 0))
def B_twos : S := .seq (.asg (.nm 1) (.lst (.cons (.cst (.int 1)) .nil))) (.seq (.while_ (.cmp .LtE (.bin .Mult (.cst (.int 2)) (.idx (.var 1) (.neg (.cst (.int 1))))) (.var 0)) (.ex (.chg .append 1 (.cons (.bin .Mult (.cst (.int 2)) (.idx (.var 1) (.neg (.cst (.int 1))))) .nil)))) (.ret (.var 1)))
def B_all_standings : S := .seq (.asg (.nm 1) (.lst .nil)) (.seq (.for_ (.tp (.cons (.nm 2) (.cons (.tp (.cons (.nm 3) (.cons (.nm 4) .nil))) .nil))) .enum (.cons (.call "spans" (.cons (.fz (.var 0)) .nil)) .nil) (.for_ (.nm 5) .range (.cons (.var 3) (.cons (.bin .Add (.var 4) (.cst (.int 1))) .nil)) (.ex (.chg .append 1 (.cons (.tup (.cons (.var 2) (.cons (.var 5) (.cons (.idx (.call "full" (.cons (.fz (.var 5)) .nil)) (.cst (.int 0))) .nil)))) .nil))))) (.ret (.var 1)))
def B_need_few : S := .seq (.asg (.nm 2) (.bin .Add (.bin .Add (.var 0) (.var 1)) (.cst (.int 1)))) (.ite (.and_ (.cmp .Gt (.var 2) (.cst (.int 4000))) (.cmp .Gt (.call "slack" (.cons (.fz (.var 2)) .nil)) (.cst (.int 4000)))) .never .skip)
def B_spans : S := .seq (.asgd 1 (.call "twos" (.cons (.fz (.var 0)) .nil))) (.seq (.asg (.nm 2) (.lst .nil)) (.seq (.for_ (.tp (.cons (.nm 3) (.cons (.nm 4) .nil))) .enum (.cons (.slc (.var 1) .nop (.neg (.cst (.int 1)))) .nil) (.seq (.asg (.nm 5) (.bin .FloorDiv (.bin .FloorDiv (.bin .Sub (.bin .Add (.var 0) (.var 4)) (.cst (.int 1))) (.var 4)) (.cst (.int 2)))) (.ex (.chg .append 2 (.cons (.tup (.cons (.blt .max (.cons (.idx (.var 1) (.bin .Sub (.neg (.cst (.int 2))) (.var 3))) (.cons (.var 5) .nil))) (.cons (.bin .Sub (.idx (.var 1) (.bin .Sub (.neg (.cst (.int 1))) (.var 3))) (.cst (.int 1))) .nil))) .nil))))) (.ret (.var 2))))
def B_l_figures : S := .seq (.asg (.nm 1) (.cst (.int 0))) (.seq (.while_ (.cmp .Gt (.var 0) (.cst (.int 1))) (.seq (.asg (.nm 0) (.bin .FloorDiv (.var 0) (.cst (.int 2)))) (.asg (.nm 1) (.bin .Add (.var 1) (.cst (.int 1)))))) (.ret (.var 1)))
def B_l_behind : S := .seq (.ite (.cmp .Eq (.idx (.var 2) (.cst (.int 0))) (.cst (.str "L"))) (.ret (.tup (.cons (.bin .Sub (.var 0) (.idx (.var 2) (.cst (.int 1)))) (.cons (.var 1) .nil)))) .skip) (.ret (.tup (.cons (.var 0) (.cons (.bin .Sub (.var 1) (.idx (.var 2) (.cst (.int 1)))) .nil))))
def B_l_gap : S := .seq (.asg (.nm 1) (.call "_law_draw" (.cons (.var 0) (.cons (.cst (.int 3)) .nil)))) (.seq (.ite (.cmp .Eq (.var 1) (.cst (.int 0))) (.seq (.asg (.nm 2) (.bin .Sub (.call "_law_draw" (.cons (.var 0) (.cons (.cst (.int 41)) .nil))) (.cst (.int 20)))) (.ret (.tup (.cons (.var 2) (.cons (.bin .Add (.bin .Add (.var 2) (.cst (.int 1))) (.call "_law_draw" (.cons (.var 0) (.cons (.cst (.int 24)) .nil)))) .nil))))) .skip) (.seq (.ite (.cmp .Eq (.var 1) (.cst (.int 1))) (.seq (.asg (.nm 2) (.bin .Sub (.call "_law_draw" (.cons (.var 0) (.cons (.bin .Mult (.cst (.int 2)) (.bin .Pow (.cst (.int 10)) (.cst (.int 9)))) .nil))) (.bin .Pow (.cst (.int 10)) (.cst (.int 9))))) (.ret (.tup (.cons (.var 2) (.cons (.bin .Add (.bin .Add (.var 2) (.cst (.int 1))) (.call "_law_draw" (.cons (.var 0) (.cons (.bin .Pow (.cst (.int 10)) (.cst (.int 9))) .nil)))) .nil))))) .skip) (.seq (.asg (.nm 3) (.bin .Add (.cst (.int 1)) (.call "_law_draw" (.cons (.var 0) (.cons (.bin .Mult (.cst (.int 2)) (.bin .Pow (.cst (.int 10)) (.cst (.int 60)))) .nil))))) (.seq (.asg (.nm 2) (.bin .Sub (.call "_law_draw" (.cons (.var 0) (.cons (.fz (.bin .Add (.bin .Sub (.bin .Mult (.cst (.int 2)) (.bin .Pow (.cst (.int 10)) (.cst (.int 60)))) (.var 3)) (.cst (.int 1)))) .nil))) (.bin .Pow (.cst (.int 10)) (.cst (.int 60))))) (.ret (.tup (.cons (.var 2) (.cons (.bin .Add (.var 2) (.var 3)) .nil))))))))
def B_l_most : S := .seq (.asg (.nm 3) (.bin .Add (.bin .Add (.var 0) (.var 1)) (.cst (.int 1)))) (.seq (.ite (.cmp .Eq (.var 2) (.cst (.str "L"))) (.ret (.blt .min (.cons (.var 0) (.cons (.bin .Sub (.var 3) (.bin .FloorDiv (.var 3) (.cst (.int 2)))) .nil)))) .skip) (.ret (.blt .min (.cons (.var 1) (.cons (.bin .FloorDiv (.var 3) (.cst (.int 2))) .nil)))))
def B_l_names2 : S := .seq (.asg (.nm 1) (.cst (.str "abcdefghijklmnopqrstuvwxyz"))) (.seq (.asg (.nm 2) (.bin .Add (.cst (.int 1)) (.call "_law_draw" (.cons (.var 0) (.cons (.cst (.int 8)) .nil))))) (.seq (.asg (.nm 3) (.call "_law_draw" (.cons (.var 0) (.cons (.fz (.var 2)) .nil)))) (.seq (.asg (.nm 4) (.call "_law_draw" (.cons (.var 0) (.cons (.cst (.int 26)) .nil)))) (.seq (.asg (.nm 5) (.mth .join (.cst (.str "")) (.cons (.comp [6] (.nm 6) .range (.cons (.var 2) .nil) .nop (.idx (.var 1) (.call "_law_draw" (.cons (.var 0) (.cons (.cst (.int 26)) .nil))))) .nil))) (.ret (.comp [6] (.nm 6) .range (.cons (.cst (.int 3)) .nil) .nop (.bin .Add (.bin .Add (.slc (.var 5) .nop (.var 3)) (.idx (.var 1) (.bin .Mod (.bin .Add (.var 4) (.bin .Mult (.cst (.int 5)) (.var 6))) (.cst (.int 26))))) (.slc (.var 5) (.bin .Add (.var 3) (.cst (.int 1))) .nop))))))))
def B_l_turned : S := .seq (.asg (.tp (.cons (.nm 2) (.cons (.nm 3) .nil))) (.var 0)) (.seq (.ite (.cmp .Eq (.var 1) (.cst (.str "L"))) (.ret (.tup (.cons (.bin .FloorDiv (.bin .Add (.var 2) (.var 3)) (.cst (.int 2))) (.cons (.var 3) .nil)))) .skip) (.ret (.tup (.cons (.var 2) (.cons (.bin .Add (.bin .FloorDiv (.bin .Add (.var 2) (.var 3)) (.cst (.int 2))) (.cst (.int 1))) .nil)))))
def B_l_is_alone : S := .seq (.for_ (.nm 3) .plain (.cons (.var 2) .nil) (.seq (.ite (.or_ (.not_ (.isi (.var 3) "tuple")) (.or_ (.cmp .NotEq (.blt .len (.cons (.var 3) .nil)) (.cst (.int 2))) (.or_ (.not_ (.isi (.idx (.var 3) (.cst (.int 0))) "str")) (.isi (.idx (.var 3) (.cst (.int 1))) "bool")))) (.ret (.cst (.bl false))) .skip) (.seq (.ite (.or_ (.cmp .NotIn (.idx (.var 3) (.cst (.int 0))) (.lst (.cons (.cst (.str "L")) (.cons (.cst (.str "R")) .nil)))) (.not_ (.chn .LtE .LtE (.cst (.int 1)) (.idx (.var 3) (.cst (.int 1))) (.call "_law_most" (.cons (.fz (.var 0)) (.cons (.fz (.var 1)) (.cons (.fz (.idx (.var 3) (.cst (.int 0)))) .nil))))))) (.ret (.cst (.bl false))) .skip) (.asg (.tp (.cons (.nm 0) (.cons (.nm 1) .nil))) (.call "_law_behind" (.cons (.fz (.var 0)) (.cons (.fz (.var 1)) (.cons (.fz (.var 3)) .nil)))))))) (.ret (.and_ (.cmp .Eq (.var 0) (.cst (.int 0))) (.cmp .Eq (.var 1) (.cst (.int 0)))))
def B_l_does : S := .seq (.asg (.tp (.cons (.nm 4) (.cons (.nm 5) (.cons (.nm 6) .nil)))) (.var 2)) (.seq (.asg (.nm 7) (.bin .Sub (.bin .Sub (.var 5) (.cst (.int 1))) (.var 6))) (.seq (.ite (.or_ (.cmp .Gt (.var 6) (.var 0)) (.cmp .Gt (.var 7) (.var 1))) (.ret (.cst (.bl false))) .skip) (.seq (.ite (.and_ (.cmp .LtE (.bin .Sub (.var 0) (.var 6)) (.bin .Add (.var 5) (.cst (.int 1)))) (.cmp .GtE (.bin .Mult (.bin .Add (.bin .Add (.var 0) (.var 7)) (.cst (.int 1))) (.var 3)) (.bin .Add (.bin .Add (.var 0) (.var 1)) (.cst (.int 1))))) (.ret (.cst (.bl true))) .skip) (.ret (.and_ (.cmp .LtE (.bin .Sub (.var 1) (.var 7)) (.var 5)) (.cmp .GtE (.bin .Mult (.bin .Add (.bin .Add (.var 6) (.var 1)) (.cst (.int 2))) (.var 3)) (.bin .Add (.bin .Add (.var 0) (.var 1)) (.cst (.int 2)))))))))
def B_l_p : S := .seq (.asg (.nm 1) (.cst (.int 0))) (.seq (.while_ (.cmp .Gt (.var 0) (.cst (.int 1))) (.seq (.ite (.cmp .Eq (.bin .Mod (.var 0) (.cst (.int 2))) (.cst (.int 1))) (.asg (.nm 1) (.bin .Add (.bin .Add (.var 1) (.bin .FloorDiv (.var 0) (.cst (.int 2)))) (.cst (.int 1)))) .skip) (.asg (.nm 0) (.bin .FloorDiv (.var 0) (.cst (.int 2)))))) (.ret (.var 1)))
def B_l_powers : S := .seq (.asg (.nm 1) (.lst (.cons (.cst (.int 1)) .nil))) (.seq (.for_ (.nm 2) .range (.cons (.var 0) .nil) (.ex (.chg .append 1 (.cons (.bin .Mult (.cst (.int 2)) (.idx (.var 1) (.neg (.cst (.int 1))))) .nil)))) (.ret (.var 1)))
def B_judged : S := .ret (.idx (.call "nearest" (.cons (.fz (.var 0)) (.cons (.fz (.var 1)) .nil))) (.cst (.int 1)))
def B_nearest : S := .seq (.asg (.nm 2) (.cst .non)) (.seq (.for_ (.nm 3) .plain (.cons (.srt (.var 0)) .nil) (.ite (.or_ (.cmp .Is (.var 2) (.cst .non)) (.cmp .Lt (.blt .abs (.cons (.bin .Sub (.idx (.var 3) (.cst (.int 0))) (.var 1)) .nil)) (.blt .abs (.cons (.bin .Sub (.idx (.var 2) (.cst (.int 0))) (.var 1)) .nil)))) (.asg (.nm 2) (.var 3)) .skip)) (.ret (.var 2)))
def B_l_strip : S := .seq (.asg (.nm 1) (.call "_law_draw" (.cons (.var 0) (.cons (.cst (.int 4)) .nil)))) (.seq (.ite (.cmp .Eq (.var 1) (.cst (.int 0))) (.ret (.tup (.cons (.call "_law_draw" (.cons (.var 0) (.cons (.cst (.int 13)) .nil))) (.cons (.call "_law_draw" (.cons (.var 0) (.cons (.cst (.int 13)) .nil))) .nil)))) .skip) (.seq (.ite (.cmp .Eq (.var 1) (.cst (.int 1))) (.ret (.tup (.cons (.call "_law_draw" (.cons (.var 0) (.cons (.cst (.int 2000)) .nil))) (.cons (.call "_law_draw" (.cons (.var 0) (.cons (.cst (.int 2000)) .nil))) .nil)))) .skip) (.seq (.ite (.cmp .Eq (.var 1) (.cst (.int 2))) (.seq (.asg (.nm 2) (.call "_law_draw" (.cons (.var 0) (.cons (.bin .Pow (.cst (.int 10)) (.cst (.int 9))) .nil)))) (.ret (.idx (.lst (.cons (.tup (.cons (.var 2) (.cons (.cst (.int 0)) .nil))) (.cons (.tup (.cons (.cst (.int 0)) (.cons (.var 2) .nil))) .nil))) (.call "_law_draw" (.cons (.var 0) (.cons (.cst (.int 2)) .nil)))))) .skip) (.ret (.tup (.cons (.call "_law_draw" (.cons (.var 0) (.cons (.fz (.bin .Add (.bin .Mult (.cst (.int 2)) (.bin .Pow (.cst (.int 10)) (.cst (.int 60)))) (.cst (.int 1)))) .nil))) (.cons (.call "_law_draw" (.cons (.var 0) (.cons (.fz (.bin .Add (.bin .Mult (.cst (.int 2)) (.bin .Pow (.cst (.int 10)) (.cst (.int 60)))) (.cst (.int 1)))) .nil))) .nil)))))))
def B_l_turns : S := .seq (.asg (.nm 3) (.bin .Add (.var 1) (.call "_law_draw" (.cons (.var 0) (.cons (.fz (.idx (.lst (.cons (.cst (.int 7)) (.cons (.bin .Sub (.bin .Add (.var 2) (.cst (.int 1))) (.var 1)) .nil))) (.call "_law_draw" (.cons (.var 0) (.cons (.cst (.int 2)) .nil))))) .nil))))) (.ret (.mth .join (.cst (.str "")) (.cons (.comp [4] (.nm 4) .range (.cons (.var 3) .nil) .nop (.idx (.cst (.str "RL")) (.call "_law_draw" (.cons (.var 0) (.cons (.cst (.int 2)) .nil))))) .nil)))
end Itp
/-! Names: the drawn names of many laws. -/
namespace Itp
open PySem
/-- a name's letters -/
def NameOk (c : List Nat) : Prop := 1 ≤ c.length ∧ c.length ≤ 8 ∧ ∀ x ∈ c, 97 ≤ x ∧ x ≤ 122
def nmD (c : List Nat) : D := .str ⟨c.toArray⟩
theorem nmD_ok {c : List Nat} (h : NameOk c) : (nmD c).ok := ok_str fun x hx => by have := h.2.2 x hx; omega
theorem letters_at : ∀ n, n < 26 → ("abcdefghijklmnopqrstuvwxyz" : Str).cps.toList[n]? = some (97 + n) := by decide +kernel
theorem letters_len : ("abcdefghijklmnopqrstuvwxyz" : Str).length = 26 := by decide +kernel
theorem letters_atI {v : Int} (h0 : 0 ≤ v) (h1 : v < 26) : L2.atI ("abcdefghijklmnopqrstuvwxyz" : Str).cps.toList v = some (97 + v.toNat) := by
  obtain ⟨n, rfl⟩ := Int.eq_ofNat_of_zero_le h0
  exact atI_at (letters_at n (by omega))
def chD (c : Nat) : D := .str ⟨#[c]⟩
theorem strs_chD : ∀ l : List Nat, strsOf (l.map chD) = some (l.map fun c => (⟨#[c]⟩ : Str))
  | [] => rfl
  | b :: l => by
    show (strsOf (l.map chD)).map _ = _
    rw [strs_chD l]
    rfl
theorem sum_ones : ∀ l : List Nat, ((l.map fun c => (⟨#[c]⟩ : Str)).map (·.length)).sum = l.length
  | [] => rfl
  | c :: l => by
    have := sum_ones l
    simp only [List.map_cons, List.sum_cons, List.length_cons] at this ⊢
    rw [this]
    show 1 + l.length = l.length + 1
    omega
theorem strs_of {xs : List D} {cs : List Nat} (e : xs = cs.map chD) : strsOf xs = some (cs.map fun c => (⟨#[c]⟩ : Str)) := by rw [e]; exact strs_chD cs
def SpNames (C : Ct) : Prop := ∀ h (n : Nat) Q, Hand h → 1 ≤ n → n ≤ 20 → (∀ (l : List (List Nat)) h', Hand h' → l.length = n → l.Nodup → (∀ c ∈ l, NameOk c) → Q (.l false (l.map nmD)) [some (.l true h'), some (.d (.int n))]) → C "_law_names" [.l true h, .d (.int n)] Q
theorem rangeD_at {lo : Int} {n i : Nat} {x : D} (h : (rangeD lo n)[i]? = some x) : i < n ∧ x = .int (lo + (i : Nat)) := by
  unfold rangeD at h
  rw [List.getElem?_map] at h
  by_cases hi : i < n
  · rw [List.getElem?_range hi] at h
    exact ⟨hi, (Option.some.inj h).symm⟩
  · rw [List.getElem?_eq_none (by simpa using hi)] at h
    cases h
theorem rangeD_len {lo : Int} {n : Nat} : (rangeD lo n).length = n := by simp [rangeD]
theorem nodup_range {α : Type} (g : Nat → α) (n : Nat) (h : ∀ i j, i < j → j < n → g i ≠ g j) : ((List.range n).map g).Nodup := by
  rw [List.Nodup, List.pairwise_map]
  exact List.pairwise_lt_range.imp_of_mem fun hi hj hlt => h _ _ hlt (List.mem_range.mp hj)
theorem cut_nm (c : List Nat) {k : Nat} (h : k ≤ c.length) : L2.cutS ⟨c.toArray⟩ none (some (k : Int)) = ⟨(c.take k).toArray⟩ := by rw [cutS_eq, cut_to h]
theorem names_ok {T : Tab} (t : DrawT T) (tn : T "_law_names" = some ⟨2, 8, B_l_names⟩) : ∀ k, 4 ≤ k → SpNames (call T k) := lvl 4 fun j h n Q hh n1 n2 hq => by
  have dr := draw_ok t (k := j + 3) (by omega)
  refine run_call tn rfl ?_
  generalize call T (j + 3) = C at dr ⊢
  refine dr _ _ _ hh (by decide) (by decide) fun v h1 hh1 v0 v1 => ?_
  refine ⟨⟨by omega, by omega⟩, ?_⟩
  show compL _ _ _ _ _ _ _ _ _ _
  refine compL_inv _ (fun i acc s => ∃ cs h2, Hand h2 ∧ cs.length = i ∧ (∀ x ∈ cs, 97 ≤ x ∧ x ≤ 122) ∧ acc = cs.map chD ∧ s = [some (.l true h2), some (.d (.int n)), some (.d (.str "abcdefghijklmnopqrstuvwxyz")), none, none, none, none, none]) (fun i x acc s N hN hx hs => ?_) (fun acc s hs => ?_) _ ⟨[], h1, hh1, rfl, fun x hx => by simp at hx, rfl, rfl⟩
  · obtain ⟨cs, h2, hh2, hl, hc, rfl, rfl⟩ := hs
    obtain ⟨hi, rfl⟩ := rangeD_at hx
    refine ⟨_, rfl, ?_⟩
    refine dr _ _ _ hh2 (by decide) (by decide) fun u h3 hh3 u0 u1 => ?_
    refine ⟨Nat.le_of_ble_eq_true rfl, _, letters_atI u0 u1, ?_⟩
    refine ⟨_, _, rfl, ?_, ?_⟩
    · rw [List.length_map, hl]; show i < 16777216; omega
    · refine hN _ _ ⟨cs ++ [97 + u.toNat], h3, hh3, by simp [hl], fun x hx => ?_, by simp [chD], rfl⟩
      rcases List.mem_append.mp hx with hx | hx
      · exact hc x hx
      · rw [List.mem_singleton.mp hx]; omega
  · obtain ⟨cs, h2, hh2, hl, hc, rfl, rfl⟩ := hs
    rw [rangeD_len] at hl
    have hl1 : 1 ≤ cs.length ∧ cs.length ≤ 8 := by omega
    clear hl
    refine dr _ _ _ hh2 ?_ (small ?_ ?_) fun at_ h3 hh3 a0 a1 => ?_
    · show (0 : Int) < ((cs.map chD).length : Int)
      rw [List.length_map]; omega
    · show (0 : Int) < ((cs.map chD).length : Int)
      rw [List.length_map]; omega
    · show ((cs.map chD).length : Int) ≤ 10 ^ 70
      rw [List.length_map]; omega
    rw [List.length_map] at a1
    obtain ⟨at_, rfl⟩ := Int.eq_ofNat_of_zero_le a0
    have ha : at_ < cs.length := by omega
    refine dr _ _ _ hh3 (by decide) (by decide) fun f h4 hh4 f0 f1 => ?_
    refine ⟨Nat.le_of_ble_eq_true rfl, ?_⟩
    refine ⟨⟨by omega, by omega⟩, ?_⟩
    show forL _ _ _ _ _ _
    let w : Nat → List Nat := fun j => cs.set at_ (97 + ((f + 5 * (j : Int)) % 26).toNat)
    have wl : ∀ j, (w j).length = cs.length := fun j => by simp [w]
    have wok : ∀ j, NameOk (w j) := fun j => by
      refine ⟨by rw [wl]; exact hl1.1, by rw [wl]; exact hl1.2, fun x hx => ?_⟩
      rcases List.mem_or_eq_of_mem_set hx with hx | rfl
      · exact hc x hx
      · omega
    refine forL_inv _ (fun i s => ∃ c0 o7, fr o7 ∧ s = [some (.l true h4), some (.d (.int n)), some (.d (.str "abcdefghijklmnopqrstuvwxyz")), some (.l false ((cs.set at_ c0).map chD)), some (.d (.int at_)), some (.d (.int f)), some (.l false ((List.range i).map fun j => nmD (w j))), o7]) (fun i x s N hN hx hs => ?_) (fun s hs => ?_) _ ⟨cs[at_], none, fr.n, ?_⟩
    · obtain ⟨c0, o7, f7, rfl⟩ := hs
      obtain ⟨hi, rfl⟩ := rangeD_at hx
      refine ⟨_, put_fr rfl f7, ?_⟩
      refine ⟨.inl (by decide), by decide, Nat.le_of_ble_eq_true rfl, _, letters_atI (Int.emod_nonneg _ (by decide)) (Int.emod_lt_of_pos _ (by decide)), ?_⟩
      refine ⟨at_, ixN_at (by simpa using ha), ?_⟩
      have e3 : (((cs.set at_ c0).map chD).set at_ (D.str ⟨#[97 + ((f + 5 * (0 + (i : Int))) % 26).toNat]⟩)) = (w i).map chD := by
        rw [show D.str ⟨#[97 + ((f + 5 * (0 + (i : Int))) % 26).toNat]⟩ = chD (97 + ((f + 5 * (0 + (i : Int))) % 26).toNat) from rfl, ← List.map_set, List.set_set, Int.zero_add]
      refine ⟨(w i).map fun c => (⟨#[c]⟩ : Str), strs_of e3, ?_, ?_⟩
      · rw [sum_ones, List.length_map, wl]
        show cs.length + cs.length * 0 ≤ 16777216
        omega
      · rw [join_chars]
        refine ⟨?_, hN _ ⟨97 + ((f + 5 * (0 + (i : Int))) % 26).toNat, some (.d (.int (0 + (i : Int)))), fr.x, ?_⟩⟩
        · rw [List.length_map, List.length_range]; show i < 16777216; omega
        · rw [List.range_succ, List.map_append]
          have e4 : List.map chD (cs.set at_ (97 + ((f + 5 * (0 + (i : Int))) % 26).toNat)) = ((cs.set at_ c0).map chD).set at_ (D.str ⟨#[97 + ((f + 5 * (0 + (i : Int))) % 26).toNat]⟩) := by
            rw [e3, Int.zero_add]
          rw [e4]
          rfl
    · obtain ⟨c0, o7, f7, rfl⟩ := hs
      rw [rangeD_len]
      have hn : (n : Int).toNat = n := rfl
      rw [hn]
      have ndw : ((List.range n).map w).Nodup := nodup_range w n fun i j h1 h2 e => by
        have e1 : (w i)[at_]? = some (97 + ((f + 5 * (i : Int)) % 26).toNat) := List.getElem?_set_self (by simpa using ha)
        have e2 : (w j)[at_]? = some (97 + ((f + 5 * (j : Int)) % 26).toNat) := List.getElem?_set_self (by simpa using ha)
        rw [e, e2] at e1
        have e3 := Option.some.inj e1
        omega
      have plain : ∀ h9, Hand h9 → Q (.l false ((List.range n).map fun j => nmD (w j))) [some (.l true h9), some (.d (.int n))] := fun h9 hh9 => by
        have := hq ((List.range n).map w) h9 hh9 (by simp) ndw fun c hc => by
          obtain ⟨j, _, rfl⟩ := List.mem_map.mp hc
          exact wok j
        rwa [List.map_map] at this
      refine if_d (fun hge => ?_) fun hlt => ?_
      · have hge : n ≤ cs.length := by
          have : ((n : Int)) ≤ (((cs.set at_ c0).map chD).length : Int) := hge
          simp at this
          omega
        refine dr _ _ _ hh4 (by decide) (by decide) fun u h5 hh5 u0 u1 => ?_
        refine if_d (fun _ => ?_) fun _ => plain h5 hh5
        refine ⟨⟨by omega, by omega⟩, ?_⟩
        show compL _ _ _ _ _ _ _ _ _ _
        refine compL_inv _ (fun i acc s => acc = (List.range i).map (fun k => nmD ((w 0).take (k + 1))) ∧ s = [some (.l true h5), some (.d (.int n)), some (.d (.str "abcdefghijklmnopqrstuvwxyz")), some (.l false ((cs.set at_ c0).map chD)), some (.d (.int at_)), some (.d (.int f)), some (.l false ((List.range n).map fun j => nmD (w j))), o7]) (fun i x acc s N hN hx hs => ?_) (fun acc s hs => ?_) _ ⟨rfl, rfl⟩
        · obtain ⟨rfl, rfl⟩ := hs
          obtain ⟨hi, rfl⟩ := rangeD_at hx
          have hi : i < n := hi
          refine ⟨_, rfl, ?_⟩
          refine ⟨nmD (w 0), atI_at (k := 0) (by rw [List.getElem?_map, List.getElem?_range (by omega)]; rfl), ?_⟩
          refine ⟨?_, ?_⟩
          · show (w 0).toArray.size ≤ 16777216
            rw [List.size_toArray, wl]; omega
          refine ⟨_, _, rfl, ?_, ?_⟩
          · rw [List.length_map, List.length_range]; show i < 16777216; omega
          · refine hN _ _ ⟨?_, rfl⟩
            rw [List.range_succ, List.map_append]
            have e5 : L2.cutS ⟨(w 0).toArray⟩ none (some ((0 + (i : Int)) + 1)) = ⟨((w 0).take (i + 1)).toArray⟩ := by
              rw [show ((0 + (i : Int)) + 1) = ((i + 1 : Nat) : Int) by omega]
              exact cut_nm _ (by rw [wl]; omega)
            show _ ++ [D.str (L2.cutS ⟨(w 0).toArray⟩ none (some ((0 + (i : Int)) + 1)))] = _
            rw [e5]
            rfl
        · obtain ⟨rfl, rfl⟩ := hs
          rw [rangeD_len]
          have := hq ((List.range n).map fun k => (w 0).take (k + 1)) h5 hh5 (by simp) (nodup_range _ n fun i j h1 h2 e => by
            have e1 := congrArg List.length e
            rw [List.length_take, List.length_take, wl] at e1
            omega) fun c hc => by
              obtain ⟨k, hk, rfl⟩ := List.mem_map.mp hc
              have hk := List.mem_range.mp hk
              refine ⟨by rw [List.length_take, wl]; omega, by rw [List.length_take, wl]; omega, fun x hx => (wok 0).2.2 x (List.mem_of_mem_take hx)⟩
          rwa [List.map_map] at this
      · exact plain h4 hh4
    · rw [List.set_getElem_self]
      rfl
end Itp

/-! Cases: cases sorted by place; nearest. -/
namespace Itp
open PySem
abbrev Case := Int × List Nat
def caseD (c : Case) : D := .tup [.int c.1, nmD c.2]
def sortC (cs : List Case) : List Case := cs.mergeSort fun a b => decide (a.1 ≤ b.1)
theorem sortC_perm (cs : List Case) : (sortC cs).Perm cs := List.mergeSort_perm _ _
theorem sortC_le (cs : List Case) : (sortC cs).Pairwise fun a b => a.1 ≤ b.1 := by
  have h := List.pairwise_mergeSort (le := fun a b : Case => decide (a.1 ≤ b.1)) (fun a b c h1 h2 => by
    have h1 := of_decide_eq_true h1
    have h2 := of_decide_eq_true h2
    exact decide_eq_true (Int.le_trans h1 h2)) (fun a b => by
    rcases Int.le_total a.1 b.1 with h | h
    · rw [decide_eq_true h]; rfl
    · rw [decide_eq_true h, Bool.or_true]) cs
  exact h.imp fun h => of_decide_eq_true h
theorem caseD_lt (a b : Case) (h : a.1 ≠ b.1) : PySem.W.dataLt (caseD a).py (caseD b).py = decide (a.1 < b.1) := by
  show PySem.W.dataLt (.tuple [.int a.1, (nmD a.2).py]) (.tuple [.int b.1, (nmD b.2).py]) = _
  rw [PySem.W.dataLt_tuple, PySem.W.dataLt_all_no (by simp only [PySem.W.alike]) (by simpa [PyData.eqv] using h), PySem.W.dataLt_int]
theorem caseD_self (a : Case) : PySem.W.dataLt (caseD a).py (caseD a).py = false := PyProof.Rows.lex_irrefl _
theorem fst_inj {cs : List Case} (nd : (cs.map (·.1)).Nodup) {a b : Case} (ha : a ∈ cs) (hb : b ∈ cs) (e : a.1 = b.1) : a = b := by
  induction cs with
  | nil => simp at ha
  | cons c cs ih =>
    rw [List.map_cons, List.nodup_cons] at nd
    rcases List.mem_cons.mp ha with e1 | ha'
    · rcases List.mem_cons.mp hb with e2 | hb'
      · rw [e1, e2]
      · exact absurd (List.mem_map.mpr ⟨b, hb', by rw [← e, e1]⟩) nd.1
    · rcases List.mem_cons.mp hb with e2 | hb'
      · exact absurd (List.mem_map.mpr ⟨a, ha', by rw [e, e2]⟩) nd.1
      · exact ih nd.2 ha' hb'
theorem srt_cases {cs : List Case} (nd : (cs.map (·.1)).Nodup) : srtD (cs.map caseD) = (sortC cs).map caseD := by
  unfold srtD sortC
  refine (List.map_mergeSort fun a ha b hb => ?_).symm
  show decide (a.1 ≤ b.1) = !PySem.W.dataLt (caseD b).py (caseD a).py
  by_cases e : b.1 = a.1
  · have := fst_inj nd hb ha e
    subst this
    rw [caseD_self]
    simp
  · rw [caseD_lt _ _ e]
    by_cases h : b.1 < a.1
    · rw [decide_eq_true h, decide_eq_false (by omega)]; rfl
    · rw [decide_eq_false h, decide_eq_true (by omega)]; rfl
theorem caseD_depth (c : Case) : (caseD c).py.depth = 1 := by simp [caseD, nmD, D.py, D.pyAll, PyData.depth, PyData.depthAll]
theorem srtOk_cases {cs : List Case} (h : cs.length ≤ 10000) : SrtOk (cs.map caseD) := by
  refine ⟨fun x hx => ?_, ?_, ?_, ?_⟩
  · obtain ⟨c, _, rfl⟩ := List.mem_map.mp hx
    exact ⟨rfl, by rw [caseD_depth]; decide⟩
  · rw [List.map_map]
    exact PySem.W.AllAlike.of fun b b' => by simp [caseD, nmD, D.py, D.pyAll, PySem.W.alike, PySem.W.alikeAll]
  · rw [List.map_map]
    exact PySem.W.Sortable.tuples fun b => ⟨_, _, rfl⟩
  · rw [List.length_map]; show cs.length ≤ 16777216; omega
/-- a list handed over: data, or lent -/
def Lt (o : O) (xs : List D) : Prop := o = .d (.lst xs) ∨ o = .l true xs
theorem Lt.d {xs : List D} : Lt (.d (.lst xs)) xs := .inl rfl
theorem Lt.l {xs : List D} : Lt (.l true xs) xs := .inr rfl
def nearF (p : Int) (b : Option Case) (c : Case) : Option Case := match b with
  | none => some c
  | some b => if (c.1 - p).natAbs < (b.1 - p).natAbs then some c else some b
def optD : Option Case → D
  | none => .non
  | some c => caseD c
def SpNear (C : Ct) : Prop := ∀ o (cs : List Case) p Q, Lt o (cs.map caseD) → (cs.map (·.1)).Nodup → cs.length ≤ 10000 → Q (.d (optD ((sortC cs).foldl (nearF p) none))) [some o, some (.d (.int p))] → C "nearest" [o, .d (.int p)] Q
theorem abs_lt (x y : Int) : ((if x < 0 then -x else x) < (if y < 0 then -y else y)) ↔ x.natAbs < y.natAbs := by
  split <;> split <;> omega
theorem near_ok {T : Tab} (tn : T "nearest" = some ⟨2, 4, B_nearest⟩) : ∀ k, 1 ≤ k → SpNear (call T k) := lvl 1 fun j o cs p Q ho nd hl hq => by
  refine run_call tn rfl ?_
  generalize call T j = C
  have rest : forL (.nm 3) (fun D s => normK s fun s => rS C (.ite (.or_ (.cmp .Is (.var 2) (.cst .non)) (.cmp .Lt (.blt .abs (.cons (.bin .Sub (.idx (.var 3) (.cst (.int 0))) (.var 1)) .nil)) (.blt .abs (.cons (.bin .Sub (.idx (.var 2) (.cst (.int 0))) (.var 1)) .nil)))) (.asg (.nm 2) (.var 3)) .skip) D s) (unlock []) { rEnds 2 Q with nx := fun s1 => rS C (.ret (.var 2)) (rEnds 2 Q) s1 } ((sortC cs).map caseD) [some o, some (.d (.int p)), some (.d .non), none] := by
   refine forL_inv _ (fun i s => ∃ o3, fr o3 ∧ s = [some o, some (.d (.int p)), some (.d (optD (((sortC cs).take i).foldl (nearF p) none))), o3]) (fun i x s N hN hx hs => ?_) (fun s hs => ?_) _ ⟨none, fr.n, rfl⟩
   · obtain ⟨o3, f3, rfl⟩ := hs
     rw [List.getElem?_map] at hx
     obtain ⟨c, hc, rfl⟩ := Option.map_eq_some_iff.mp hx
     have stp : ((sortC cs).take (i + 1)).foldl (nearF p) none = nearF p (((sortC cs).take i).foldl (nearF p) none) c := by
       rw [List.take_add_one, hc, List.foldl_append]; rfl
     refine ⟨[some o, some (.d (.int p)), some (.d (optD (((sortC cs).take i).foldl (nearF p) none))), some (.d (caseD c))], put_fr rfl f3, ?_⟩
     cases hb : ((sortC cs).take i).foldl (nearF p) none with
     | none =>
       rw [hb] at stp
       exact hN _ ⟨some (.d (caseD c)), fr.x, by rw [stp]; rfl⟩
     | some b =>
       rw [hb] at stp
       refine ⟨_, rfl, _, rfl, ?_⟩
       refine if_d (fun h => ?_) fun h => ?_
       · have h' := (abs_lt _ _).mp h
         refine hN _ ⟨some (.d (caseD c)), fr.x, ?_⟩
         rw [stp]; show _ = [_, _, some (O.d (optD (if _ then _ else _))), _]
         rw [if_pos h']
         try rfl
       · have h' : ¬ (c.1 - p).natAbs < (b.1 - p).natAbs := fun z => h ((abs_lt _ _).mpr z)
         refine hN _ ⟨some (.d (caseD c)), fr.x, ?_⟩
         rw [stp]; show _ = [_, _, some (O.d (optD (if _ then _ else _))), _]
         rw [if_neg h']
         try rfl
   · obtain ⟨o3, f3, rfl⟩ := hs
     rw [List.length_map, List.take_length]
     exact hq
  rcases ho with rfl | rfl
  · refine ⟨srtOk_cases hl, ?_⟩
    show forL _ _ _ _ _ _
    rw [srt_cases nd]
    exact rest
  · refine ⟨srtOk_cases hl, ?_⟩
    show forL _ _ _ _ _ _
    rw [srt_cases nd]
    exact rest
theorem nd_of_lt {ss : List Case} (s : ss.Pairwise fun a b => a.1 < b.1) : (ss.map (·.1)).Nodup := by
  rw [List.Nodup, List.pairwise_map]
  exact s.imp fun h => Int.ne_of_lt h
theorem sortC_eq {cs ss : List Case} (p : ss.Perm cs) (s : ss.Pairwise fun a b => a.1 < b.1) : sortC cs = ss := by
  have h2 := (sortC_perm cs).trans p.symm
  refine List.Perm.eq_of_pairwise (le := fun a b => a.1 ≤ b.1) (fun a b ha hb h3 h4 => ?_) (sortC_le cs) (s.imp fun h => Int.le_of_lt h) h2
  exact fst_inj (nd_of_lt s) (h2.mem_iff.mp ha) hb (by omega)
def SpJudged (C : Ct) : Prop := ∀ o (cs : List Case) p c Q, Lt o (cs.map caseD) → (cs.map (·.1)).Nodup → cs.length ≤ 10000 → (sortC cs).foldl (nearF p) none = some c → Q (.d (nmD c.2)) [some o, some (.d (.int p))] → C "judged" [o, .d (.int p)] Q
theorem judged_ok {T : Tab} (tn : T "nearest" = some ⟨2, 4, B_nearest⟩) (tj : T "judged" = some ⟨2, 2, B_judged⟩) : ∀ k, 2 ≤ k → SpJudged (call T k) := lvl 2 fun j o cs p c Q ho nd hl hc hq => by
  have ne := near_ok tn (j + 1) (by omega)
  refine run_call tj rfl ?_
  generalize call T (j + 1) = C at ne ⊢
  rcases ho with rfl | rfl
  · refine ne _ cs p _ Lt.d nd hl ?_
    rw [hc]
    exact ⟨_, rfl, hq⟩
  · refine ne _ cs p _ Lt.l nd hl ?_
    rw [hc]
    exact ⟨_, rfl, hq⟩
end Itp

/-! Draws: drawn cases, shuffled lists. -/
namespace Itp
open PySem
theorem caseD_ok' {c : Case} (h : NameOk c.2) : (caseD c).plain = true ∧ (caseD c).py.canLay0 = true ∧ (caseD c).py.depth ≤ 1 := by
  refine ⟨rfl, ?_, by rw [caseD_depth]; decide⟩
  have := SeqAt.canLay_of_shaped (nmD_ok h).2
  show PyData.canLay0 (.tuple [.int c.1, (nmD c.2).py]) = true
  simp only [PyData.canLay0, PyData.canLayAll0, this, Bool.and_self]
def NamesOk (cs : List Case) : Prop := ∀ c ∈ cs, NameOk c.2
theorem cases_ok {cs : List Case} (h : NamesOk cs) : (D.lst (cs.map caseD)).ok := ok_lst (n := 1) (by decide) fun x hx => by
  obtain ⟨c, hc, rfl⟩ := List.mem_map.mp hx
  exact caseD_ok' (h c hc)
theorem erase_perm {α : Type} {us : List α} {n : Nat} (h : n < us.length) : (us[n] :: us.eraseIdx n).Perm us := by
  rw [List.eraseIdx_eq_take_drop_succ]
  have e : us = us.take n ++ us[n] :: us.drop (n + 1) := by
    rw [← List.drop_eq_getElem_cons h, List.take_append_drop]
  refine (List.perm_middle.symm).trans ?_
  exact List.Perm.of_eq e.symm
theorem map_erase {α β : Type} (f : α → β) (us : List α) (n : Nat) : (us.map f).eraseIdx n = (us.eraseIdx n).map f := by
  rw [List.eraseIdx_eq_take_drop_succ, List.eraseIdx_eq_take_drop_succ, List.map_append, List.map_take, List.map_drop]
theorem nil_ok : (D.lst []).ok := ⟨rfl, rfl⟩
theorem eqv_nil (xs : List D) : PyData.eqv (D.lst xs).py (D.lst []).py = xs.isEmpty := by cases xs <;> rfl
theorem seqIx {n k : Nat} (h : k < n) : seqIndex? (k : Int) n = some k := by
  have := (L2.ixN_seq (ixN_at h)).1
  exact this
def SpShuf (C : Ct) : Prop := ∀ h (cs : List Case) Q, Hand h → cs.length ≤ 10000 → NamesOk cs → (∀ (ps : List Case) h', Hand h' → ps.Perm cs → Q (.l false (ps.map caseD)) [some (.l true h'), some (.d (.lst (cs.map caseD)))]) → C "_law_shuffled" [.l true h, .d (.lst (cs.map caseD))] Q
theorem shuf_ok {T : Tab} (t : DrawT T) (tn : T "_law_shuffled" = some ⟨2, 4, B_l_shuffled⟩) : ∀ k, 4 ≤ k → SpShuf (call T k) := lvl 4 fun j h cs Q hh hl hn hq => by
  have dr := draw_ok t (k := j + 3) (by omega)
  refine run_call tn rfl ?_
  generalize call T (j + 3) = C at dr ⊢
  refine ⟨Nat.le_of_ble_eq_true rfl, ?_⟩
  refine ⟨fun m s => ∃ us vs h1, Hand h1 ∧ m = us.length ∧ (us ++ vs).Perm cs ∧ s = [some (.l true h1), some (.d (.lst (cs.map caseD))), some (.l false (us.map caseD)), some (.l false (vs.map caseD))], ⟨_, cs, [], h, hh, rfl, by simp, rfl⟩, ?_⟩
  rintro m s ⟨us, vs, h1, hh1, rfl, pm, rfl⟩
  have hu : NamesOk us := fun c hc => hn c (pm.mem_iff.mp (List.mem_append_left _ hc))
  have lu : us.length + vs.length = cs.length := by rw [← pm.length_eq, List.length_append]
  refine ⟨Nat.zero_le _, cases_ok hu, nil_ok, ?_⟩
  refine if_b (fun z => ?_) fun z => ?_
  · have z' : (!PyData.eqv (D.lst (us.map caseD)).py (D.lst []).py) = true := z
    rw [eqv_nil] at z'
    have pos : 0 < us.length := by
      cases us with
      | nil => cases z'
      | cons u us => exact Nat.succ_pos _
    refine dr _ _ _ hh1 ?_ (small ?_ ?_) fun v h2 hh2 v0 v1 => ?_
    · show (0 : Int) < ((us.map caseD).length : Int)
      rw [List.length_map]; omega
    · show (0 : Int) < ((us.map caseD).length : Int)
      rw [List.length_map]; omega
    · show ((us.map caseD).length : Int) ≤ 10 ^ 70
      rw [List.length_map]; omega
    rw [List.length_map] at v1
    obtain ⟨n, rfl⟩ := Int.eq_ofNat_of_zero_le v0
    have hn' : n < us.length := by omega
    refine ⟨⟨by omega, by omega⟩, n, caseD us[n], seqIx (by simpa using hn'), by rw [List.getElem?_map, List.getElem?_eq_getElem hn']; rfl, ?_⟩
    refine ⟨?_, ?_⟩
    · show (vs.map caseD).length < 16777216
      rw [List.length_map]; omega
    refine ⟨(us.eraseIdx n).length, by rw [List.length_eraseIdx]; split <;> omega, us.eraseIdx n, vs ++ [us[n]], h2, hh2, rfl, ?_, ?_⟩
    · have p1 := erase_perm hn'
      refine List.Perm.trans ?_ pm
      refine List.Perm.trans ?_ (p1.append_right vs)
      rw [← List.append_assoc]
      exact List.perm_append_comm.trans (by simp)
    · rw [List.map_append, ← map_erase]
      rfl
  · have z' : (!PyData.eqv (D.lst (us.map caseD)).py (D.lst []).py) = false := z
    rw [eqv_nil] at z'
    have e : us = [] := by
      cases us with
      | nil => rfl
      | cons u us => cases z'
    subst e
    exact hq vs h1 hh1 (by simpa using pm)
end Itp

/-! Forms: forms of names and gaps; what the program asks of them. -/
namespace Itp
open PySem
abbrev Gap := Int × Int
def gapD (g : Gap) : D := .tup [.int g.1, .int g.2]
def formD (ns : List (List Nat)) (gs : List Gap) : D := .tup [.tup (ns.map nmD), .tup (gs.map gapD)]
def mk (g : Gap) : Int := (g.1 + g.2) / 2
structure FormOk (ns : List (List Nat)) (gs : List Gap) : Prop where
  len : ns.length = gs.length + 1
  nm : ∀ n ∈ ns, NameOk n
  adj : ∀ (i : Nat) a b, ns[i]? = some a → ns[i + 1]? = some b → a ≠ b
  lt : ∀ g ∈ gs, g.1 < g.2
  ord : gs.Pairwise fun a b => a.2 ≤ b.1
/-! ### general -/
theorem skip_of {C : Ct} {E : En} {s : St} (h : E.nx s) : rS C .skip E s := h
theorem p60 : (10 : Int) ^ (60 : Int).toNat = 10 ^ 60 := rfl
theorem p59 : (10 : Int) ^ (59 : Int).toNat = 10 ^ 59 := rfl
theorem p58 : (10 : Int) ^ (58 : Int).toNat = 10 ^ 58 := rfl
theorem p9 : (10 : Int) ^ (9 : Int).toNat = 10 ^ 9 := rfl
theorem str_app (a b : List Nat) : (⟨a.toArray⟩ : Str) ++ ⟨b.toArray⟩ = ⟨(a ++ b).toArray⟩ := by
  show (⟨a.toArray ++ b.toArray⟩ : Str) = _
  congr 1
  simp
theorem str_inj {a b : List Nat} : ((⟨a.toArray⟩ : Str) = ⟨b.toArray⟩) ↔ a = b := ⟨fun h => by injection h with h; simpa using congrArg Array.toList h, fun h => by rw [h]⟩
theorem atI_ints {ns : List Int} {v : Int} (h0 : 0 ≤ v) (h1 : v < ns.length) : ∃ z ∈ ns, L2.atI (ns.map D.int) v = some (.int z) := by
  obtain ⟨n, rfl⟩ := Int.eq_ofNat_of_zero_le h0
  have hn : n < ns.length := by omega
  exact ⟨ns[n], List.getElem_mem hn, L2.atI_nat (by rw [List.getElem?_map, List.getElem?_eq_getElem hn]; rfl)⟩
theorem atI_mem {α : Type} (f : α → D) {xs : List α} {v : Int} (h0 : 0 ≤ v) (h1 : v < xs.length) : ∃ (n : Nat) (x : α), v = (n : Int) ∧ xs[n]? = some x ∧ L2.atI (xs.map f) v = some (f x) := by
  obtain ⟨n, rfl⟩ := Int.eq_ofNat_of_zero_le h0
  have hn : n < xs.length := by omega
  exact ⟨n, xs[n], rfl, List.getElem?_eq_getElem hn, L2.atI_nat (by rw [List.getElem?_map, List.getElem?_eq_getElem hn]; rfl)⟩
theorem atI_map_nat {α : Type} (f : α → D) {xs : List α} {n : Nat} {x : α} (h : xs[n]? = some x) : L2.atI (xs.map f) (n : Int) = some (f x) := L2.atI_nat (by rw [List.getElem?_map, h]; rfl)
theorem atI_zero {α : Type} (f : α → D) (x : α) (xs : List α) : L2.atI ((x :: xs).map f) 0 = some (f x) := atI_map_nat f (n := 0) rfl
theorem atI_last {α : Type} (f : α → D) {xs : List α} {x : α} (h : xs[xs.length - 1]? = some x) : L2.atI (xs.map f) (-1) = some (f x) := by
  have hl : 0 < xs.length := by
    rcases Nat.eq_zero_or_pos xs.length with z | z
    · rw [List.length_eq_zero_iff.mp z] at h; simp at h
    · exact z
  unfold L2.atI L2.ixN
  rw [List.length_map, if_neg (by omega), if_pos (by omega)]
  have e : ((-1 : Int) + (xs.length : Int)).toNat = xs.length - 1 := by omega
  simp only [e, List.getElem?_map, Option.bind_some, h, Option.map_some]
/-! ### targets of slots that may be written -/
theorem tg1 {s : St} {i : Nat} {oi : Option O} {x : D} (hi : s[i]? = some oi) (fi : fr oi) : setTg (.nm i) x s = some (s.set i (some (.d x))) := put_fr hi fi
theorem tg2 {s : St} {i j : Nat} {oi oj : Option O} {x y : D} (hi : s[i]? = some oi) (fi : fr oi) (hj : (s.set i (some (.d x)))[j]? = some oj) (fj : fr oj) :
    setTg (.tp (.cons (.nm i) (.cons (.nm j) .nil))) (.tup [x, y]) s = some ((s.set i (some (.d x))).set j (some (.d y))) := by
  show (match setTg (.nm i) x s with | some s1 => setTgs (.cons (.nm j) .nil) [y] s1 | none => none) = _
  rw [tg1 hi fi]
  show (match setTg (.nm j) y (s.set i (some (.d x))) with | some s1 => setTgs .nil [] s1 | none => none) = _
  rw [tg1 hj fj]
  rfl
theorem tg12 {s : St} {i j k : Nat} {oi oj ok : Option O} {x y z : D} (hi : s[i]? = some oi) (fi : fr oi) (hj : (s.set i (some (.d x)))[j]? = some oj) (fj : fr oj) (hk : ((s.set i (some (.d x))).set j (some (.d y)))[k]? = some ok) (fk : fr ok) :
    setTg (.tp (.cons (.nm i) (.cons (.tp (.cons (.nm j) (.cons (.nm k) .nil))) .nil))) (.tup [x, .tup [y, z]]) s = some (((s.set i (some (.d x))).set j (some (.d y))).set k (some (.d z))) := by
  show (match setTg (.nm i) x s with | some s1 => setTgs (.cons (.tp (.cons (.nm j) (.cons (.nm k) .nil))) .nil) [.tup [y, z]] s1 | none => none) = _
  rw [tg1 hi fi]
  show (match setTg (.tp (.cons (.nm j) (.cons (.nm k) .nil))) (.tup [y, z]) (s.set i (some (.d x))) with | some s1 => setTgs .nil [] s1 | none => none) = _
  rw [tg2 hj fj hk fk]
  rfl
/-! ### the first one of which something holds -/
section
variable {α : Type} {xs : List α} {p : α → Bool} {i : Nat} {x : α}
theorem fi_hit (h : i ≤ xs.findIdx p) (e : xs[i]? = some x) (hp : p x = true) : xs.findIdx p = i := by
  obtain ⟨hi, e⟩ := List.getElem?_eq_some_iff.mp e
  rcases Nat.lt_or_eq_of_le h with z | z
  · have := List.not_of_lt_findIdx z
    rw [e, hp] at this
    cases this
  · exact z.symm
theorem fi_miss (h : i ≤ xs.findIdx p) (e : xs[i]? = some x) (hp : p x = false) : i + 1 ≤ xs.findIdx p := by
  obtain ⟨hi, e⟩ := List.getElem?_eq_some_iff.mp e
  rcases Nat.lt_or_eq_of_le h with z | z
  · exact z
  · have hl : xs.findIdx p < xs.length := by omega
    have := List.findIdx_getElem (w := hl)
    have e2 : xs[xs.findIdx p] = x := by rw [← e]; congr 1; exact z.symm
    rw [e2, hp] at this
    cases this
theorem fi_end (h : xs.length ≤ xs.findIdx p) : xs.findIdx p = xs.length := Nat.le_antisymm List.findIdx_le_length h
end
theorem enumB_at : ∀ {xs : List D} {m i : Nat} {x : D}, (enumD m xs)[i]? = some x → ∃ y, xs[i]? = some y ∧ x = .tup [.int ((m + i : Nat) : Int), y]
  | [], m, i, x, h => by simp [enumD] at h
  | y :: ys, m, 0, x, h => by simp [enumD] at h; exact ⟨y, rfl, by simpa using h.symm⟩
  | y :: ys, m, i + 1, x, h => by
    obtain ⟨z, a, b⟩ := enumB_at (xs := ys) (m := m + 1) (i := i) (x := x) (by simpa [enumD] using h)
    exact ⟨z, by simpa using a, by rw [b]; congr 3; omega⟩
theorem enumB_len : ∀ {xs : List D} {m : Nat}, (enumD m xs).length = xs.length
  | [], _ => rfl
  | _ :: xs, m => by simp [enumD, enumB_len (xs := xs)]
theorem enum_map {α : Type} {f : α → D} {xs : List α} {i : Nat} {x : D} (h : (enumD 0 (xs.map f))[i]? = some x) : ∃ y, xs[i]? = some y ∧ x = .tup [.int (i : Int), f y] := by
  obtain ⟨y, a, b⟩ := enumB_at h
  rw [List.getElem?_map] at a
  obtain ⟨z, c, rfl⟩ := Option.map_eq_some_iff.mp a
  exact ⟨z, c, by rw [b]; simp⟩
theorem mapD_at {α : Type} {f : α → D} {xs : List α} {i : Nat} {x : D} (h : (xs.map f)[i]? = some x) : ∃ y, xs[i]? = some y ∧ x = f y := by
  rw [List.getElem?_map] at h
  obtain ⟨z, c, e⟩ := Option.map_eq_some_iff.mp h
  exact ⟨z, c, e.symm⟩
/-! ### mark, gap_at, tells -/
def SpMark (C : Ct) : Prop := ∀ a b Q, Q (.d (.int ((a + b) / 2))) [some (.d (.int a)), some (.d (.int b))] → C "mark" [.d (.int a), .d (.int b)] Q
theorem mark_ok {T : Tab} (tm : T "mark" = some ⟨2, 2, B_mark⟩) : ∀ k, 1 ≤ k → SpMark (call T k) := lvl 1 fun j a b Q h => by
  refine run_call tm rfl ?_
  exact ⟨⟨by decide, by decide⟩, h⟩
def inP (p : Int) (g : Gap) : Bool := decide (g.1 < p ∧ p < g.2)
def leP (p : Int) (g : Gap) : Bool := decide (p ≤ mk g)
/-- the gap in which a place lies -/
def gapN (gs : List Gap) (p : Int) : Option Nat := if gs.findIdx (inP p) < gs.length then some (gs.findIdx (inP p)) else none
def onD : Option Nat → D
  | none => .non
  | some n => .int (n : Int)
def tellN (gs : List Gap) (p : Int) : Nat := gs.findIdx (leP p)
theorem gapN_some {gs : List Gap} {p : Int} {i : Nat} (h : gapN gs p = some i) : ∃ g, gs[i]? = some g ∧ g.1 < p ∧ p < g.2 := by
  unfold gapN at h
  split at h
  · rename_i hl
    cases h
    refine ⟨_, List.getElem?_eq_getElem hl, ?_⟩
    have := List.findIdx_getElem (w := hl)
    exact of_decide_eq_true this
  · cases h
def SpGapAt (C : Ct) : Prop := ∀ x gs p Q, Q (.d (onD (gapN gs p))) [some (.d (.tup [x, .tup (gs.map gapD)])), some (.d (.int p))] → C "gap_at" [.d (.tup [x, .tup (gs.map gapD)]), .d (.int p)] Q
theorem gap_at_ok {T : Tab} (tg : T "gap_at" = some ⟨2, 5, B_gap_at⟩) : ∀ k, 1 ≤ k → SpGapAt (call T k) := lvl 1 fun j x gs p Q h => by
  refine run_call tg rfl ?_
  generalize call T j = C
  refine ⟨_, rfl, ?_⟩
  show forL _ _ _ _ _ _
  refine forL_inv _ (fun i s => ∃ o2 o3 o4, fr o2 ∧ fr o3 ∧ fr o4 ∧ i ≤ gs.findIdx (inP p) ∧ s = [some (.d (.tup [x, .tup (gs.map gapD)])), some (.d (.int p)), o2, o3, o4]) (fun i z s N hN hz hs => ?_) (fun s hs => ?_) _ ⟨none, none, none, fr.n, fr.n, fr.n, Nat.zero_le _, rfl⟩
  · obtain ⟨o2, o3, o4, f2, f3, f4, hi, rfl⟩ := hs
    obtain ⟨g, hg, rfl⟩ := enum_map hz
    refine ⟨[some (.d (.tup [x, .tup (gs.map gapD)])), some (.d (.int p)), some (.d (.int (i : Int))), some (.d (.int g.1)), some (.d (.int g.2))], tg12 rfl f2 rfl f3 rfl f4, ?_⟩
    refine if_d (fun h1 => ?_) fun h1 => ?_
    · refine if_d (fun h2 => ?_) fun h2 => ?_
      · have e := fi_hit hi hg (decide_eq_true ⟨h1, h2⟩)
        have hl : i < gs.length := (List.getElem?_eq_some_iff.mp hg).1
        have e2 : gapN gs p = some i := by unfold gapN; rw [e, if_pos hl]
        rw [e2] at h
        exact h
      · exact hN _ ⟨_, _, _, fr.x, fr.x, fr.x, fi_miss hi hg (decide_eq_false fun z => h2 z.2), rfl⟩
    · exact hN _ ⟨_, _, _, fr.x, fr.x, fr.x, fi_miss hi hg (decide_eq_false fun z => h1 z.1), rfl⟩
  · obtain ⟨o2, o3, o4, f2, f3, f4, hi, rfl⟩ := hs
    rw [enumB_len, List.length_map] at hi
    have e2 : gapN gs p = none := by unfold gapN; rw [if_neg (by omega)]
    rw [e2] at h
    exact h
def SpTells (C : Ct) : Prop := ∀ ns gs p n Q, ns.length = gs.length + 1 → ns[tellN gs p]? = some n → Q (.d (nmD n)) [some (.d (formD ns gs)), some (.d (.int p))] → C "tells" [.d (formD ns gs), .d (.int p)] Q
theorem tells_ok {T : Tab} (tm : T "mark" = some ⟨2, 2, B_mark⟩) (tt : T "tells" = some ⟨2, 7, B_tells⟩) : ∀ k, 2 ≤ k → SpTells (call T k) := lvl 2 fun j ns gs p n Q hl hn h => by
  have ma := mark_ok tm (j + 1) (by omega)
  refine run_call tt rfl ?_
  generalize call T (j + 1) = C at ma ⊢
  show forL _ _ _ _ _ _
  refine forL_inv _ (fun i s => ∃ o4 o5 o6, fr o4 ∧ fr o5 ∧ fr o6 ∧ i ≤ gs.findIdx (leP p) ∧ s = [some (.d (formD ns gs)), some (.d (.int p)), some (.d (.tup (ns.map nmD))), some (.d (.tup (gs.map gapD))), o4, o5, o6]) (fun i z s N hN hz hs => ?_) (fun s hs => ?_) _ ⟨none, none, none, fr.n, fr.n, fr.n, Nat.zero_le _, rfl⟩
  · obtain ⟨o4, o5, o6, f4, f5, f6, hi, rfl⟩ := hs
    obtain ⟨g, hg, rfl⟩ := enum_map hz
    refine ⟨[some (.d (formD ns gs)), some (.d (.int p)), some (.d (.tup (ns.map nmD))), some (.d (.tup (gs.map gapD))), some (.d (.int (i : Int))), some (.d (.int g.1)), some (.d (.int g.2))], tg12 rfl f4 rfl f5 rfl f6, ?_⟩
    refine ma _ _ _ ?_
    refine if_d (fun h1 => ?_) fun h1 => ?_
    · have e := fi_hit hi hg (decide_eq_true h1)
      have e2 : tellN gs p = i := e
      rw [e2] at hn
      exact ⟨_, atI_map_nat nmD hn, h⟩
    · exact hN _ ⟨_, _, _, fr.x, fr.x, fr.x, fi_miss hi hg (decide_eq_false h1), rfl⟩
  · obtain ⟨o4, o5, o6, f4, f5, f6, hi, rfl⟩ := hs
    rw [enumB_len, List.length_map] at hi
    have e : tellN gs p = gs.length := fi_end hi
    rw [e] at hn
    exact ⟨_, atI_last nmD (by rw [hl]; exact hn), h⟩
/-! ### three names alike but at one place -/
def SpNames3 (C : Ct) : Prop := ∀ h Q, Hand h → (∀ (w : Nat → List Nat) h', Hand h' → (∀ i, NameOk (w i)) → (∀ i j, i < j → j < 26 → w i ≠ w j) → Q (.l false ((List.range 3).map fun i => nmD (w i))) [some (.l true h')]) → C "_law_names" [.l true h] Q
theorem names3_ok {T : Tab} (t : DrawT T) (tn : T "_law_names" = some ⟨1, 7, B_l_names2⟩) : ∀ k, 4 ≤ k → SpNames3 (call T k) := lvl 4 fun j h Q hh hq => by
  have dr := draw_ok t (k := j + 3) (by omega)
  refine run_call tn rfl ?_
  generalize call T (j + 3) = C at dr ⊢
  refine dr _ _ _ hh (by decide) (by decide) fun v h1 hh1 v0 v1 => ?_
  refine dr _ _ _ hh1 (by omega) (small (by omega) (by omega)) fun at_ h2 hh2 a0 a1 => ?_
  obtain ⟨at_, rfl⟩ := Int.eq_ofNat_of_zero_le a0
  refine dr _ _ _ hh2 (by decide) (by decide) fun f h3 hh3 f0 f1 => ?_
  refine ⟨⟨by omega, by omega⟩, ?_⟩
  show compL _ _ _ _ _ _ _ _ _ _
  refine compL_inv _ (fun i acc s => ∃ cs h4, Hand h4 ∧ cs.length = i ∧ (∀ x ∈ cs, 97 ≤ x ∧ x ≤ 122) ∧ acc = cs.map chD ∧ s = [some (.l true h4), some (.d (.str "abcdefghijklmnopqrstuvwxyz")), some (.d (.int (1 + v))), some (.d (.int (at_ : Int))), some (.d (.int f)), none, none]) (fun i x acc s N hN hx hs => ?_) (fun acc s hs => ?_) _ ⟨[], h3, hh3, rfl, fun x hx => by simp at hx, rfl, rfl⟩
  · obtain ⟨cs, h4, hh4, hl, hc, rfl, rfl⟩ := hs
    obtain ⟨hi, rfl⟩ := rangeD_at hx
    refine ⟨_, rfl, ?_⟩
    refine dr _ _ _ hh4 (by decide) (by decide) fun u h5 hh5 u0 u1 => ?_
    refine ⟨Nat.le_of_ble_eq_true rfl, _, letters_atI u0 u1, ?_⟩
    refine ⟨_, _, rfl, ?_, ?_⟩
    · rw [List.length_map, hl]; show i < 16777216; omega
    · refine hN _ _ ⟨cs ++ [97 + u.toNat], h5, hh5, by simp [hl], fun x hx => ?_, by simp [chD], rfl⟩
      rcases List.mem_append.mp hx with hx | hx
      · exact hc x hx
      · rw [List.mem_singleton.mp hx]; omega
  · obtain ⟨cs, h4, hh4, hl, hc, rfl, rfl⟩ := hs
    rw [rangeD_len] at hl
    have hl1 : (cs.length : Int) = 1 + v := by omega
    have ha : at_ < cs.length := by omega
    let w : Nat → List Nat := fun j => cs.set at_ (97 + ((f + 5 * (j : Int)) % 26).toNat)
    have wl : ∀ j, (w j).length = cs.length := fun j => by simp [w]
    have wok : ∀ j, NameOk (w j) := fun j => by
      refine ⟨by rw [wl]; omega, by rw [wl]; omega, fun x hx => ?_⟩
      rcases List.mem_or_eq_of_mem_set hx with hx | rfl
      · exact hc x hx
      · omega
    have wne : ∀ i j, i < j → j < 26 → w i ≠ w j := fun i j h1 h2 e => by
      have e1 : (w i)[at_]? = some (97 + ((f + 5 * (i : Int)) % 26).toNat) := List.getElem?_set_self (by simpa using ha)
      have e2 : (w j)[at_]? = some (97 + ((f + 5 * (j : Int)) % 26).toNat) := List.getElem?_set_self (by simpa using ha)
      rw [e, e2] at e1
      have e3 := Option.some.inj e1
      omega
    refine ⟨cs.map fun c => (⟨#[c]⟩ : Str), strs_chD cs, ?_, ?_⟩
    · rw [sum_ones, List.length_map]
      show cs.length + cs.length * 0 ≤ 16777216
      omega
    rw [join_chars]
    refine ⟨⟨by decide, by decide⟩, ?_⟩
    show compL _ _ _ _ _ _ _ _ _ _
    refine compL_inv _ (fun i acc s => acc = (List.range i).map (fun k => nmD (w k)) ∧ s = [some (.l true h4), some (.d (.str "abcdefghijklmnopqrstuvwxyz")), some (.d (.int (1 + v))), some (.d (.int (at_ : Int))), some (.d (.int f)), some (.d (.str ⟨cs.toArray⟩)), none]) (fun i x acc s N hN hx hs => ?_) (fun acc s hs => ?_) _ ⟨rfl, rfl⟩
    · obtain ⟨rfl, rfl⟩ := hs
      obtain ⟨hi, rfl⟩ := rangeD_at hx
      have hi : i < 3 := hi
      refine ⟨_, rfl, ?_⟩
      have sz : (⟨cs.toArray⟩ : Str).length ≤ line := by show cs.toArray.size ≤ 16777216; rw [List.size_toArray]; omega
      have c1 : L2.cutS ⟨cs.toArray⟩ none (some (at_ : Int)) = ⟨(cs.take at_).toArray⟩ := cut_nm _ (by omega)
      have c2 : L2.cutS ⟨cs.toArray⟩ (some ((at_ : Int) + 1)) none = ⟨(cs.drop (at_ + 1)).toArray⟩ := by
        rw [cutS_eq, show ((at_ : Int) + 1) = ((at_ + 1 : Nat) : Int) by omega, cut_from (by omega)]
      refine ⟨sz, ?_⟩
      rw [c1]
      refine ⟨.inl (by decide), by decide, Nat.le_of_ble_eq_true rfl, _, letters_atI (Int.emod_nonneg _ (by decide)) (Int.emod_lt_of_pos _ (by decide)), ?_⟩
      refine ⟨?_, sz, ?_⟩
      · show (cs.take at_).toArray.size + 1 ≤ 16777216
        rw [List.size_toArray, List.length_take]; omega
      rw [c2]
      have e1 : (⟨(cs.take at_).toArray⟩ : Str) ++ ⟨#[97 + ((f + 5 * (0 + (i : Int))) % 26).toNat]⟩ = ⟨(cs.take at_ ++ [97 + ((f + 5 * (0 + (i : Int))) % 26).toNat]).toArray⟩ := str_app _ [_]
      rw [e1]
      refine ⟨?_, ?_⟩
      · show (cs.take at_ ++ [_]).toArray.size + (cs.drop (at_ + 1)).toArray.size ≤ 16777216
        simp
        omega
      rw [str_app]
      refine ⟨_, _, rfl, ?_, ?_⟩
      · rw [List.length_map, List.length_range]; show i < 16777216; omega
      · refine hN _ _ ⟨?_, rfl⟩
        rw [List.range_succ, List.map_append]
        have e2 : cs.take at_ ++ [97 + ((f + 5 * (0 + (i : Int))) % 26).toNat] ++ cs.drop (at_ + 1) = w i := by
          show _ = cs.set at_ _
          rw [List.set_eq_take_append_cons_drop, if_pos ha, Int.zero_add]
          simp
        rw [e2]
        rfl
    · obtain ⟨rfl, rfl⟩ := hs
      exact hq w h4 hh4 wok wne
end Itp

/-! Pleas: a gap's turns, the gaps by turns, drawn gaps and turns. -/
namespace Itp
open PySem
def turn (g : Int × Int) (t : Bool) : Int × Int := if t = true then ((g.1 + g.2) / 2, g.2) else (g.1, (g.1 + g.2) / 2 + 1)
def gp (g : Int × Int) (l : List Bool) (i : Nat) : Int × Int := (l.take i).foldl turn g
def gD (g : Int × Int) : D := .tup [.int g.1, .int g.2]
def GL (g : Int × Int) (l : List Bool) (n : Nat) : List D := (List.range (n + 1)).map fun i => gD (gp g l i)
def ch (b : Bool) : Nat := if b = true then 76 else 82
def zs (l : List Bool) : Str := ⟨(l.map ch).toArray⟩
def cD (b : Bool) : D := .str ⟨#[ch b]⟩
theorem zs_list (l : List Bool) : (zs l).cps.toList.map (fun c => D.str ⟨#[c]⟩) = l.map cD := by
  simp [zs, cD, Function.comp_def]
theorem zs_len (l : List Bool) : (zs l).length = l.length := by
  show (zs l).cps.size = _
  simp [zs]
theorem gp_succ (g : Int × Int) (l : List Bool) {i : Nat} {b : Bool} (h : l[i]? = some b) : gp g l (i + 1) = turn (gp g l i) b := by
  unfold gp
  rw [List.take_add_one, h, List.foldl_append]
  rfl
theorem GL_succ (g : Int × Int) (l : List Bool) (n : Nat) : GL g l (n + 1) = GL g l n ++ [gD (gp g l (n + 1))] := by
  unfold GL
  rw [List.range_succ, List.map_append]
  rfl
theorem GL_len (g : Int × Int) (l : List Bool) (n : Nat) : (GL g l n).length = n + 1 := by simp [GL]
theorem GL_at (g : Int × Int) (l : List Bool) {n i : Nat} (h : i ≤ n) : (GL g l n)[i]? = some (gD (gp g l i)) := by
  unfold GL
  rw [List.getElem?_map, List.getElem?_range (by omega)]
  rfl
theorem GL_last (g : Int × Int) (l : List Bool) (n : Nat) : L2.atI (GL g l n) (-1) = some (gD (gp g l n)) := by
  cases n with
  | zero => rfl
  | succ n => rw [GL_succ]; exact L2.atI_last _ _
theorem GL_drop (g : Int × Int) (l : List Bool) {i : Nat} (h : i ≤ l.length) : (GL g l l.length).drop i = GL (gp g l i) (l.drop i) (l.drop i).length := by
  refine List.ext_getElem? fun j => ?_
  rw [List.getElem?_drop]
  by_cases hj : i + j ≤ l.length
  · rw [GL_at g l hj, GL_at _ _ (by rw [List.length_drop]; omega)]
    unfold gp
    rw [List.take_add, List.foldl_append]
  · rw [List.getElem?_eq_none (by rw [GL_len]; omega), List.getElem?_eq_none (by rw [GL_len, List.length_drop]; omega)]
theorem GL_take (g : Int × Int) (l : List Bool) {i : Nat} (h : i ≤ l.length) : (GL g l l.length).take (i + 1) = GL g (l.take i) (l.take i).length := by
  refine List.ext_getElem? fun j => ?_
  rw [List.getElem?_take]
  have e : (l.take i).length = i := by rw [List.length_take]; omega
  by_cases hj : j ≤ i
  · rw [if_pos (by omega), GL_at g l (by omega), GL_at _ _ (by rw [e]; omega)]
    unfold gp
    rw [List.take_take, Nat.min_eq_left hj]
  · rw [if_neg (by omega), List.getElem?_eq_none (by rw [GL_len, e]; omega)]
theorem gD_ok (g : Int × Int) : (gD g).plain = true ∧ (gD g).py.canLay0 = true ∧ (gD g).py.depth ≤ 1 := ⟨rfl, rfl, by simp [gD, D.py, D.pyAll, PyData.depth, PyData.depthAll]⟩
theorem gD_ok' (g : Int × Int) : (gD g).ok := ⟨rfl, rfl⟩
theorem GL_ok (g : Int × Int) (l : List Bool) (n : Nat) : (D.lst (GL g l n)).ok := ok_lst (n := 1) (by decide) fun x hx => by
  unfold GL at hx
  obtain ⟨i, _, rfl⟩ := List.mem_map.mp hx
  exact gD_ok _
theorem cD_ok (b : Bool) : (cD b).ok := by cases b <;> exact ⟨rfl, by decide +kernel⟩
theorem okL : (D.str "L").ok := ⟨rfl, by decide +kernel⟩
theorem cD_L (b : Bool) : PyData.eqv (cD b).py (D.str "L").py = b := by cases b <;> rfl
def SpTurned (C : Ct) : Prop := ∀ g b Q, Q (.d (gD (turn g b))) [some (.d (gD g)), some (.d (cD b))] → C "turned" [.d (gD g), .d (cD b)] Q
theorem turned_ok {T : Tab} (tm : T "mark" = some ⟨2, 2, B_mark⟩) (tt : T "turned" = some ⟨2, 4, B_turned⟩) : ∀ k, 2 ≤ k → SpTurned (call T k) := lvl 2 fun j g b Q h => by
  have mk := mark_ok tm (j + 1) (by omega)
  refine run_call tt rfl ?_
  generalize call T (j + 1) = C at mk ⊢
  cases b with
  | true =>
    refine mk _ _ _ ?_
    exact ⟨Nat.le_of_ble_eq_true rfl, h⟩
  | false =>
    refine mk _ _ _ ?_
    exact ⟨Nat.le_of_ble_eq_true rfl, h⟩
def SpTurnedL (C : Ct) : Prop := ∀ g b Q, Q (.d (gD (turn g b))) [some (.d (gD g)), some (.d (cD b))] → C "_law_turned" [.d (gD g), .d (cD b)] Q
theorem turnedL_ok {T : Tab} (tl : T "_law_turned" = some ⟨2, 4, B_l_turned⟩) : ∀ k, 1 ≤ k → SpTurnedL (call T k) := lvl 1 fun j g b Q h => by
  refine run_call tl rfl ?_
  generalize call T j = C
  cases b with
  | true =>
    exact ⟨⟨by decide, by decide⟩, Nat.le_of_ble_eq_true rfl, h⟩
  | false =>
    exact ⟨⟨by decide, by decide⟩, Nat.le_of_ble_eq_true rfl, h⟩
def SpGapsBy (C : Ct) : Prop := ∀ g l Q, l.length ≤ 1000 → Q (.l false (GL g l l.length)) [some (.d (gD g)), some (.d (.str (zs l)))] → C "gaps_by" [.d (gD g), .d (.str (zs l))] Q
theorem gaps_by_ok {T : Tab} (tm : T "mark" = some ⟨2, 2, B_mark⟩) (tt : T "turned" = some ⟨2, 4, B_turned⟩) (tg : T "gaps_by" = some ⟨2, 4, B_gaps_by⟩) : ∀ k, 3 ≤ k → SpGapsBy (call T k) := lvl 3 fun j g l Q hl h => by
  have tn := turned_ok tm tt (j + 2) (by omega)
  refine run_call tg rfl ?_
  generalize call T (j + 2) = C at tn ⊢
  refine ⟨Nat.le_of_ble_eq_true rfl, ?_⟩
  show forL _ _ _ _ _ _
  rw [zs_list]
  refine forL_inv _ (fun i s => ∃ o, fr o ∧ s = [some (.d (gD g)), some (.d (.str (zs l))), some (.l false (GL g l i)), o]) (fun i x s N hN hx hs => ?_) (fun s hs => ?_) _ ⟨_, fr.n, rfl⟩
  · obtain ⟨o, ho, rfl⟩ := hs
    rw [List.getElem?_map] at hx
    obtain ⟨b, hb, rfl⟩ := Option.map_eq_some_iff.mp hx
    have hi : i < l.length := (List.getElem?_eq_some_iff.mp hb).1
    refine ⟨[some (.d (gD g)), some (.d (.str (zs l))), some (.l false (GL g l i)), some (.d (cD b))], put_fr rfl ho, ?_⟩
    refine ⟨_, GL_last g l i, ?_⟩
    refine tn _ _ _ ?_
    refine ⟨?_, hN _ ⟨some (.d (cD b)), fr.x, ?_⟩⟩
    · show (GL g l i).length < line
      rw [GL_len]
      show i + 1 < 16777216
      omega
    · rw [GL_succ, gp_succ g l hb]
  · obtain ⟨o, ho, rfl⟩ := hs
    rw [List.length_map]
    exact h
def SpHeld (C : Ct) : Prop := ∀ g l Q, l.length ≤ 1000 → Q (.d (.int (((gp g l l.length).1 + (gp g l l.length).2) / 2))) [some (.d (gD g)), some (.d (.str (zs l)))] → C "held" [.d (gD g), .d (.str (zs l))] Q
theorem held_ok {T : Tab} (tm : T "mark" = some ⟨2, 2, B_mark⟩) (tt : T "turned" = some ⟨2, 4, B_turned⟩) (tg : T "gaps_by" = some ⟨2, 4, B_gaps_by⟩) (th : T "held" = some ⟨2, 4, B_held⟩) : ∀ k, 4 ≤ k → SpHeld (call T k) := lvl 4 fun j g l Q hl h => by
  have gs := gaps_by_ok tm tt tg (j + 3) (by omega)
  have mk := mark_ok tm (j + 3) (by omega)
  refine run_call th rfl ?_
  generalize call T (j + 3) = C at gs mk ⊢
  refine gs _ _ _ hl ?_
  refine ⟨_, GL_last g l _, ?_⟩
  refine mk _ _ _ ?_
  exact h
def SpGap (C : Ct) : Prop := ∀ h Q, Hand h → (∀ g h', Hand h' → g.1 < g.2 → -(10 ^ 60) ≤ g.1 → g.2 ≤ 10 ^ 60 → Q (.d (gD g)) [some (.l true h')]) → C "_law_gap" [.l true h] Q
theorem gap_ok {T : Tab} (t : DrawT T) (tg : T "_law_gap" = some ⟨1, 4, B_l_gap⟩) : ∀ k, 4 ≤ k → SpGap (call T k) := lvl 4 fun j h Q hh hq => by
  have dr := draw_ok t (k := j + 3) (by omega)
  refine run_call tg rfl ?_
  generalize call T (j + 3) = C at dr ⊢
  have q9 : (10 : Int) ^ (9 : Int).toNat = 10 ^ 9 := rfl
  have q60 : (10 : Int) ^ (60 : Int).toNat = 10 ^ 60 := rfl
  refine dr _ _ _ hh (by decide) (by decide) fun w h1 hh1 w0 w1 => ?_
  refine if_d (fun e => ?_) fun e => ?_
  · refine dr _ _ _ hh1 (by decide) (by decide) fun v h2 hh2 v0 v1 => ?_
    refine dr _ _ _ hh2 (by decide) (by decide) fun v h2 hh2 v0 v1 => ?_
    exact ⟨Nat.le_of_ble_eq_true rfl, hq (_, _) _ hh2 (by simp only []; omega) (by simp only []; omega) (by simp only []; omega)⟩
  · refine if_d (fun e => ?_) fun e => ?_
    · refine ⟨⟨by decide, by decide, by decide⟩, .inl (by decide), ?_⟩
      refine dr _ _ _ hh1 (by decide) (small (by decide) (by decide)) fun v h2 hh2 v0 v1 => ?_
      refine ⟨⟨by decide, by decide, by decide⟩, ⟨by decide, by decide, by decide⟩, ?_⟩
      refine dr _ _ _ hh2 (by decide) (small (by decide) (by decide)) fun v h2 hh2 v0 v1 => ?_
      exact ⟨Nat.le_of_ble_eq_true rfl, hq (_, _) _ hh2 (by simp only []; omega) (by simp only []; omega) (by simp only []; omega)⟩
    · refine ⟨⟨by decide, by decide, by decide⟩, .inl (by decide), ?_⟩
      refine dr _ _ _ hh1 (by decide) (small (by decide) (by decide)) fun v h2 hh2 v0 v1 => ?_
      refine ⟨⟨by decide, by decide, by decide⟩, .inl (by decide), ?_⟩
      rw [p60] at v1
      refine dr _ _ _ hh2 ?_ (small ?_ ?_) fun u h3 hh3 u0 u1 => ?_
      · rw [p60]; omega
      · rw [p60]; omega
      · rw [p60]; omega
      · exact ⟨⟨by decide, by decide, by decide⟩, Nat.le_of_ble_eq_true rfl, hq (_, _) _ hh3 (by simp only []; omega) (by simp only []; omega) (by simp only []; omega)⟩
theorem strs_cD : ∀ l : List Bool, strsOf (l.map cD) = some ((l.map ch).map fun c => (⟨#[c]⟩ : Str))
  | [] => rfl
  | b :: l => by
    show (strsOf (l.map cD)).map _ = _
    rw [strs_cD l]
    rfl
theorem sum_one : ∀ l : List Nat, ((l.map fun c => (⟨#[c]⟩ : Str)).map (·.length)).sum = l.length
  | [] => rfl
  | c :: l => by
    have := sum_one l
    simp only [List.map_cons, List.sum_cons, List.length_cons] at this ⊢
    rw [this]
    show 1 + l.length = l.length + 1
    omega
def SpTurns (C : Ct) : Prop := ∀ h lo hi Q, Hand h → 0 ≤ lo → lo ≤ hi → hi ≤ 1000 → (∀ l h', Hand h' → lo ≤ (l.length : Int) → ((l.length : Int) ≤ hi ∨ (l.length : Int) ≤ lo + 6) → Q (.d (.str (zs l))) [some (.l true h'), some (.d (.int lo)), some (.d (.int hi))]) → C "_law_turns" [.l true h, .d (.int lo), .d (.int hi)] Q
theorem turns_ok {T : Tab} (t : DrawT T) (tn : T "_law_turns" = some ⟨3, 5, B_l_turns⟩) : ∀ k, 4 ≤ k → SpTurns (call T k) := lvl 4 fun j h lo hi Q hh l0 lh hh2 hq => by
  have dr := draw_ok t (k := j + 3) (by omega)
  refine run_call tn rfl ?_
  generalize call T (j + 3) = C at dr ⊢
  refine ⟨Nat.le_of_ble_eq_true rfl, ?_⟩
  refine dr _ _ _ hh (by decide) (by decide) fun w h1 hh1 w0 w1 => ?_
  have rest : ∀ (n : Int) (h2 : List D), Hand h2 → lo ≤ n → (n ≤ hi ∨ n ≤ lo + 6) → rS C (.ret (.mth .join (.cst (.str "")) (.cons (.comp [4] (.nm 4) .range (.cons (.var 3) .nil) .nop (.idx (.cst (.str "RL")) (.call "_law_draw" (.cons (.var 0) (.cons (.cst (.int 2)) .nil))))) .nil)))
      (rEnds 3 Q) [some (.l true h2), some (.d (.int lo)), some (.d (.int hi)), some (.d (.int n)), none] := by
    intro n h2 hh2 n0 n1
    refine ⟨⟨by omega, by omega⟩, ?_⟩
    show compL _ _ _ _ _ _ _ _ _ _
    refine compL_inv _ (fun i acc s => ∃ l h3, Hand h3 ∧ l.length = i ∧ acc = l.map cD ∧ s = [some (.l true h3), some (.d (.int lo)), some (.d (.int hi)), some (.d (.int n)), none]) (fun i x acc s N hN hx hs => ?_) (fun acc s hs => ?_) _ ⟨[], h2, hh2, rfl, rfl, rfl⟩
    · obtain ⟨l, h3, hh3, hl, rfl, rfl⟩ := hs
      have hi1 : i < n.toNat := by
        have := (List.getElem?_eq_some_iff.mp hx).1
        simpa [rangeD] using this
      obtain ⟨kk, rfl⟩ : ∃ kk, x = .int kk := by
        unfold rangeD at hx
        rw [List.getElem?_map] at hx
        obtain ⟨a, _, rfl⟩ := Option.map_eq_some_iff.mp hx
        exact ⟨_, rfl⟩
      refine ⟨_, rfl, ?_⟩
      refine dr _ _ _ hh3 (by decide) (by decide) fun v h4 hh4 v0 v1 => ?_
      have hv : v = 0 ∨ v = 1 := by omega
      rcases hv with rfl | rfl
      · refine ⟨Nat.le_of_ble_eq_true rfl, 82, rfl, ?_⟩
        refine ⟨_, _, rfl, ?_, ?_⟩
        · rw [List.length_map, hl]; show i < 16777216; omega
        · exact hN _ _ ⟨l ++ [false], h4, hh4, by simp [hl], by simp [cD, ch], rfl⟩
      · refine ⟨Nat.le_of_ble_eq_true rfl, 76, rfl, ?_⟩
        refine ⟨_, _, rfl, ?_, ?_⟩
        · rw [List.length_map, hl]; show i < 16777216; omega
        · exact hN _ _ ⟨l ++ [true], h4, hh4, by simp [hl], by simp [cD, ch], rfl⟩
    · obtain ⟨l, h3, hh3, hl, rfl, rfl⟩ := hs
      have hl2 : l.length = n.toNat := by rw [hl]; simp [rangeD]
      refine ⟨_, strs_cD l, ?_, ?_⟩
      · rw [sum_one, List.length_map, List.length_map]
        show l.length + (l.length * 0) ≤ _
        omega
      · rw [join_chars]
        exact hq l h3 hh3 (by omega) (by omega)
  have hw : w = 0 ∨ w = 1 := by omega
  rcases hw with rfl | rfl
  · refine ⟨_, rfl, ?_⟩
    refine dr _ _ _ hh1 (by decide) (by decide) fun v h2 hh2 v0 v1 => ?_
    show rS _ _ _ _
    exact rest _ _ hh2 (by omega) (.inr (by omega))
  · refine ⟨_, rfl, ?_⟩
    refine dr _ _ _ hh1 (by omega) (small (by omega) (by omega)) fun v h2 hh2 v0 v1 => ?_
    show rS _ _ _ _
    exact rest _ _ hh2 (by omega) (.inl (by omega))
theorem eqL : D.str "L" = cD true := by
  show D.str _ = D.str _
  congr 1
theorem eqR : D.str "R" = cD false := by
  show D.str _ = D.str _
  congr 1
theorem held_at (a b : Int) (l : List Bool) : gp (a, b) l l.length = l.foldl turn (a, b) := by unfold gp; rw [List.take_length]
theorem cut_zs_from (l : List Bool) {n : Nat} (h : n ≤ l.length) : L2.cutS (zs l) (some (n : Int)) none = zs (l.drop n) := by
  unfold zs
  rw [cutS_eq, cut_from (by simpa using h), List.map_drop]
theorem cut_zs_to (l : List Bool) {n : Nat} (h : n ≤ l.length) : L2.cutS (zs l) none (some (n : Int)) = zs (l.take n) := by
  unfold zs
  rw [cutS_eq, cut_to (by simpa using h), List.map_take]
end Itp

/-! Takes: strips, their moves, perfect standings; the law's own reading of them. -/
namespace Itp
open PySem
abbrev Mv := Bool × Int
def sdD (b : Bool) : D := match b with
  | true => .str (Str.ofString "L")
  | false => .str (Str.ofString "R")
def mvD (m : Mv) : D := .tup [sdD m.1, .int m.2]
/-- the most that a move can take -/
def mostN (l r : Int) (b : Bool) : Int := if b = true then (if (l + r + 1) - (l + r + 1) / 2 < l then (l + r + 1) - (l + r + 1) / 2 else l) else (if (l + r + 1) / 2 < r then (l + r + 1) / 2 else r)
def behN (l r : Int) (m : Mv) : Int × Int := if m.1 = true then (l - m.2, r) else (l, r - m.2)
/-- moves that can be done, and lead to a strip -/
def Walks : Int → Int → List Mv → Int → Int → Prop
  | l, r, [], l', r' => l = l' ∧ r = r'
  | l, r, m :: ms, l', r' => 1 ≤ m.2 ∧ m.2 ≤ mostN l r m.1 ∧ Walks (behN l r m).1 (behN l r m).2 ms l' r'
theorem walks_app : ∀ (ms ns : List Mv) (l r l1 r1 l2 r2 : Int), Walks l r ms l1 r1 → Walks l1 r1 ns l2 r2 → Walks l r (ms ++ ns) l2 r2
  | [], ns, l, r, l1, r1, l2, r2, h, h2 => by
    obtain ⟨rfl, rfl⟩ := h
    exact h2
  | m :: ms, ns, l, r, l1, r1, l2, r2, h, h2 => ⟨h.1, h.2.1, walks_app ms ns _ _ _ _ _ _ h.2.2 h2⟩
theorem sd_L (b : Bool) : PyData.eqv (sdD b).py (D.str (Str.ofString "L")).py = b := by cases b <;> rfl
theorem sd_ok (b : Bool) : (sdD b).ok := by cases b <;> exact ⟨rfl, by decide +kernel⟩
/-! ### the law's own moves -/
def SpMost (C : Ct) : Prop := ∀ l r b Q, Q (.d (.int (mostN l r b))) [some (.d (.int l)), some (.d (.int r)), some (.d (sdD b))] → C "_law_most" [.d (.int l), .d (.int r), .d (sdD b)] Q
theorem most_ok {T : Tab} (tn : T "_law_most" = some ⟨3, 4, B_l_most⟩) : ∀ k, 1 ≤ k → SpMost (call T k) := lvl 1 fun j l r b Q hq => by
  refine run_call tn rfl ?_
  cases b with
  | true => exact ⟨⟨by decide, by decide⟩, hq⟩
  | false => exact ⟨⟨by decide, by decide⟩, hq⟩
def SpBehind (C : Ct) : Prop := ∀ l r m Q, Q (.d (.tup [.int (behN l r m).1, .int (behN l r m).2])) [some (.d (.int l)), some (.d (.int r)), some (.d (mvD m))] → C "_law_behind" [.d (.int l), .d (.int r), .d (mvD m)] Q
theorem behind_ok {T : Tab} (tn : T "_law_behind" = some ⟨3, 3, B_l_behind⟩) : ∀ k, 1 ≤ k → SpBehind (call T k) := lvl 1 fun j l r m Q hq => by
  refine run_call tn rfl ?_
  obtain ⟨b, n⟩ := m
  cases b with
  | true => exact ⟨_, rfl, _, rfl, Nat.le_of_ble_eq_true rfl, hq⟩
  | false => exact ⟨_, rfl, _, rfl, Nat.le_of_ble_eq_true rfl, hq⟩
def SpAloneL (C : Ct) : Prop := ∀ l r ms Q, Walks l r ms 0 0 → (∀ f0 f1 f2, Q (.d (.bl true)) [f0, f1, f2]) → C "_law_is_alone" [.d (.int l), .d (.int r), .d (.lst (ms.map mvD))] Q
theorem lr_ok : (D.lst [D.str (Str.ofString "L"), D.str (Str.ofString "R")]).ok := ⟨rfl, by decide +kernel⟩
theorem in_lr (b : Bool) : ((D.pyAll [D.str (Str.ofString "L"), D.str (Str.ofString "R")]).any fun y => PyData.eqv y (sdD b).py) = true := by cases b <;> rfl
theorem aloneL_ok {T : Tab} (tm : T "_law_most" = some ⟨3, 4, B_l_most⟩) (tb : T "_law_behind" = some ⟨3, 3, B_l_behind⟩) (tn : T "_law_is_alone" = some ⟨3, 4, B_l_is_alone⟩) : ∀ k, 2 ≤ k → SpAloneL (call T k) := lvl 2 fun j l r ms Q hw hq => by
  have mo := most_ok tm (j + 1) (by omega)
  have be := behind_ok tb (j + 1) (by omega)
  refine run_call tn rfl ?_
  generalize call T (j + 1) = C at mo be ⊢
  show forL _ _ _ _ _ _
  refine forL_inv _ (fun i s => ∃ (l r : Int) (o3 : Option O), fr o3 ∧ Walks l r (ms.drop i) 0 0 ∧ s = [some (.d (.int l)), some (.d (.int r)), some (.d (.lst (ms.map mvD))), o3]) (fun i x s N hN hx hs => ?_) (fun s hs => ?_) _ ⟨l, r, none, fr.n, hw, rfl⟩
  · obtain ⟨l, r, o3, f3, hw, rfl⟩ := hs
    obtain ⟨m, em, rfl⟩ : ∃ m, ms[i]? = some m ∧ x = mvD m := by
      rw [List.getElem?_map] at hx
      obtain ⟨m, e, h⟩ := Option.map_eq_some_iff.mp hx
      exact ⟨m, e, h.symm⟩
    have hi := (List.getElem?_eq_some_iff.mp em).1
    have he := (List.getElem?_eq_some_iff.mp em).2
    rw [List.drop_eq_getElem_cons hi, he] at hw
    obtain ⟨w1, w2, w3⟩ := hw
    refine ⟨_, put_fr rfl f3, ?_⟩
    obtain ⟨b, n⟩ := m
    have go : ∀ (E : En), (∀ s, N s → E.nx s) → rS C (.seq (.ite (.or_ (.cmp .NotIn (.idx (.var 3) (.cst (.int 0))) (.lst (.cons (.cst (.str "L")) (.cons (.cst (.str "R")) .nil)))) (.not_ (.chn .LtE .LtE (.cst (.int 1)) (.idx (.var 3) (.cst (.int 1))) (.call "_law_most" (.cons (.fz (.var 0)) (.cons (.fz (.var 1)) (.cons (.fz (.idx (.var 3) (.cst (.int 0)))) .nil))))))) (.ret (.cst (.bl false))) .skip) (.asg (.tp (.cons (.nm 0) (.cons (.nm 1) .nil))) (.call "_law_behind" (.cons (.fz (.var 0)) (.cons (.fz (.var 1)) (.cons (.fz (.var 3)) .nil)))))) E [some (.d (.int l)), some (.d (.int r)), some (.d (.lst (ms.map mvD))), some (.d (mvD (b, n)))] := by
      intro E hE
      refine ⟨_, rfl, Nat.le_of_ble_eq_true rfl, sd_ok b, lr_ok, ?_⟩
      show if (!((D.pyAll [D.str (Str.ofString "L"), D.str (Str.ofString "R")]).any fun y => PyData.eqv y (sdD b).py)) = true then _ else _
      rw [in_lr]
      refine if_b (fun z => by cases z) fun _ => ?_
      refine ⟨_, rfl, ?_⟩
      refine if_d (fun _ => ?_) fun z => absurd w1 z
      refine ⟨_, rfl, ?_⟩
      refine mo l r b _ ?_
      refine if_nd (fun z => absurd w2 z) fun _ => ?_
      refine be l r (b, n) _ ?_
      exact hE _ (hN _ ⟨_, _, _, fr.x, w3, rfl⟩)
    cases b with
    | true =>
      refine ⟨_, rfl, _, rfl, ?_⟩
      show rS _ _ _ _
      refine go _ ?_
      exact fun _ z => z
    | false =>
      refine ⟨_, rfl, _, rfl, ?_⟩
      show rS _ _ _ _
      refine go _ ?_
      exact fun _ z => z
  · obtain ⟨l, r, o3, f3, hw, rfl⟩ := hs
    rw [List.length_map, List.drop_length] at hw
    obtain ⟨rfl, rfl⟩ := hw
    exact hq _ _ _
/-! ### figures, the perfect standing -/
def figV (v : Nat) : Nat := if v ≤ 1 then 0 else 1 + figV (v / 2)
termination_by v
decreasing_by omega
def pV (v : Nat) : Nat := if v ≤ 1 then 0 else (if v % 2 = 1 then v / 2 + 1 else 0) + pV (v / 2)
termination_by v
decreasing_by omega
def movV (v : Nat) : List Mv := if v ≤ 1 then [] else (if v % 2 = 1 then (true, ((v / 2 + 1 : Nat) : Int)) else (false, ((v / 2 : Nat) : Int))) :: movV (v / 2)
termination_by v
decreasing_by omega
theorem fig_1 {v : Nat} (h : v ≤ 1) : figV v = 0 := by rw [figV, if_pos h]
theorem fig_2 {v : Nat} (h : ¬ v ≤ 1) : figV v = 1 + figV (v / 2) := by conv => lhs; rw [figV, if_neg h]
theorem p_1 {v : Nat} (h : v ≤ 1) : pV v = 0 := by rw [pV, if_pos h]
theorem p_2 {v : Nat} (h : ¬ v ≤ 1) : pV v = (if v % 2 = 1 then v / 2 + 1 else 0) + pV (v / 2) := by conv => lhs; rw [pV, if_neg h]
theorem mov_1 {v : Nat} (h : v ≤ 1) : movV v = [] := by rw [movV, if_pos h]
theorem mov_2 {v : Nat} (h : ¬ v ≤ 1) : movV v = (if v % 2 = 1 then (true, ((v / 2 + 1 : Nat) : Int)) else (false, ((v / 2 : Nat) : Int))) :: movV (v / 2) := by conv => lhs; rw [movV, if_neg h]
theorem p_lt (v : Nat) (h : 1 ≤ v) : pV v ≤ v - 1 := by
  induction v using Nat.strongRecOn with
  | _ v ih =>
    by_cases z : v ≤ 1
    · rw [p_1 z]; omega
    · rw [p_2 z]
      have := ih (v / 2) (by omega) (by omega)
      split <;> omega
theorem mov_len (v : Nat) : (movV v).length = figV v := by
  induction v using Nat.strongRecOn with
  | _ v ih =>
    by_cases z : v ≤ 1
    · rw [mov_1 z, fig_1 z]; rfl
    · rw [mov_2 z, fig_2 z, List.length_cons, ih (v / 2) (by omega)]; omega
/-- its moves, each all that may be taken, leave the marked one alone -/
theorem mov_walks (v : Nat) (h : 1 ≤ v) : Walks (pV v) ((v - 1 - pV v : Nat) : Int) (movV v) 0 0 := by
  induction v using Nat.strongRecOn with
  | _ v ih =>
    by_cases z : v ≤ 1
    · have : v = 1 := by omega
      subst this
      rw [mov_1 z, p_1 z]
      exact ⟨rfl, rfl⟩
    · have pl := p_lt (v / 2) (by omega)
      have pv := p_lt v h
      have ih := ih (v / 2) (by omega) (by omega)
      have e := p_2 z
      rw [mov_2 z]
      by_cases o : v % 2 = 1
      · rw [if_pos o] at e
        simp only [if_pos o]
        refine ⟨by show (1 : Int) ≤ ((v / 2 + 1 : Nat) : Int); omega, ?_, ?_⟩
        · show ((v / 2 + 1 : Nat) : Int) ≤ mostN _ _ true
          unfold mostN
          rw [if_pos rfl]
          split <;> omega
        · show Walks ((pV v : Int) - ((v / 2 + 1 : Nat) : Int)) _ _ 0 0
          have e1 : (pV v : Int) - ((v / 2 + 1 : Nat) : Int) = (pV (v / 2) : Int) := by omega
          have e2 : v - 1 - pV v = v / 2 - 1 - pV (v / 2) := by omega
          rw [e1]
          show Walks _ ((v - 1 - pV v : Nat) : Int) _ 0 0
          rw [e2]
          exact ih
      · rw [if_neg o] at e
        simp only [if_neg o]
        refine ⟨by show (1 : Int) ≤ ((v / 2 : Nat) : Int); omega, ?_, ?_⟩
        · show ((v / 2 : Nat) : Int) ≤ mostN _ _ false
          unfold mostN
          rw [if_neg (by decide)]
          split <;> omega
        · show Walks (pV v : Int) (((v - 1 - pV v : Nat) : Int) - ((v / 2 : Nat) : Int)) _ 0 0
          have e1 : (pV v : Int) = (pV (v / 2) : Int) := by omega
          have e2 : ((v - 1 - pV v : Nat) : Int) - ((v / 2 : Nat) : Int) = ((v / 2 - 1 - pV (v / 2) : Nat) : Int) := by omega
          rw [e1, e2]
          exact ih
theorem nat_half (v : Nat) : (v : Int) / 2 = ((v / 2 : Nat) : Int) := by omega
def SpFigL (C : Ct) : Prop := ∀ (v : Nat) Q, (∀ f, Q (.d (.int (figV v : Int))) [f]) → C "_law_figures" [.d (.int (v : Int))] Q
theorem figL_ok {T : Tab} (tn : T "_law_figures" = some ⟨1, 2, B_l_figures⟩) : ∀ k, 1 ≤ k → SpFigL (call T k) := lvl 1 fun j v Q hq => by
  refine run_call tn rfl ?_
  generalize call T j = C
  refine ⟨fun m s => ∃ (u n : Nat), m = u ∧ n + figV u = figV v ∧ s = [some (.d (.int (u : Int))), some (.d (.int (n : Int)))], ⟨_, v, 0, rfl, by omega, rfl⟩, ?_⟩
  rintro m s ⟨u, n, rfl, e, rfl⟩
  refine if_d (fun h => ?_) fun h => ?_
  · have h : (1 : Int) < (m : Int) := h
    refine ⟨⟨by decide, by decide⟩, ?_⟩
    refine ⟨m / 2, by omega, m / 2, n + 1, rfl, ?_, ?_⟩
    · have := fig_2 (v := m) (by omega); omega
    · rw [← nat_half]; rfl
  · have h : ¬ (1 : Int) < (m : Int) := h
    have := fig_1 (v := m) (by omega)
    have : n = figV v := by omega
    rw [← this] at hq
    exact hq _
def SpPL (C : Ct) : Prop := ∀ (v : Nat) Q, (∀ f, Q (.d (.int (pV v : Int))) [f]) → C "_law_p" [.d (.int (v : Int))] Q
theorem pL_ok {T : Tab} (tn : T "_law_p" = some ⟨1, 2, B_l_p⟩) : ∀ k, 1 ≤ k → SpPL (call T k) := lvl 1 fun j v Q hq => by
  refine run_call tn rfl ?_
  generalize call T j = C
  refine ⟨fun m s => ∃ (u n : Nat), m = u ∧ n + pV u = pV v ∧ s = [some (.d (.int (u : Int))), some (.d (.int (n : Int)))], ⟨_, v, 0, rfl, by omega, rfl⟩, ?_⟩
  rintro m s ⟨u, n, rfl, e, rfl⟩
  refine if_d (fun h => ?_) fun h => ?_
  · have h : (1 : Int) < (m : Int) := h
    have e2 := p_2 (v := m) (by omega)
    refine ⟨by decide, ?_⟩
    refine if_d (fun o => ?_) fun o => ?_
    · have o : (m : Int) % 2 = 1 := o
      rw [if_pos (by omega)] at e2
      refine ⟨⟨by decide, by decide⟩, ⟨by decide, by decide⟩, ?_⟩
      refine ⟨m / 2, by omega, m / 2, n + (m / 2 + 1), rfl, by omega, ?_⟩
      have e3 : ((n + (m / 2 + 1) : Nat) : Int) = (n : Int) + (m : Int) / 2 + 1 := by omega
      rw [e3, ← nat_half]
    · have o : ¬ (m : Int) % 2 = 1 := o
      rw [if_neg (by omega)] at e2
      refine ⟨⟨by decide, by decide⟩, ?_⟩
      refine ⟨m / 2, by omega, m / 2, n, rfl, by omega, ?_⟩
      rw [← nat_half]
  · have h : ¬ (1 : Int) < (m : Int) := h
    have := p_1 (v := m) (by omega)
    have : n = pV v := by omega
    rw [← this] at hq
    exact hq _
theorem fig_le : ∀ (n v : Nat), v < 2 ^ n → figV v ≤ n
  | 0, v, h => by rw [fig_1 (by omega)]; exact Nat.le_refl _
  | n + 1, v, h => by
    by_cases z : v ≤ 1
    · rw [fig_1 z]; omega
    · rw [fig_2 z]
      have e : 2 ^ (n + 1) = 2 ^ n * 2 := Nat.pow_succ ..
      have := fig_le n (v / 2) (by omega)
      omega
def SpMovesOf (C : Ct) : Prop := ∀ (v : Nat) Q, v < 2 ^ 1000 → (∀ f, Q (.l false ((movV v).map mvD)) [f]) → C "moves_of" [.d (.int (v : Int))] Q
theorem moves_of_ok {T : Tab} (tn : T "moves_of" = some ⟨1, 2, B_moves_of⟩) : ∀ k, 1 ≤ k → SpMovesOf (call T k) := lvl 1 fun j v Q hv hq => by
  have fl := fig_le 1000 v hv
  refine run_call tn rfl ?_
  generalize call T j = C
  refine ⟨Nat.zero_le _, ?_⟩
  refine ⟨fun m s => ∃ (u : Nat) (ms : List Mv), m = u ∧ ms ++ movV u = movV v ∧ s = [some (.d (.int (u : Int))), some (.l false (ms.map mvD))], ⟨_, v, [], rfl, rfl, rfl⟩, ?_⟩
  rintro m s ⟨u, ms, rfl, e, rfl⟩
  have ml : ms.length < 16777216 := by
    have := congrArg List.length e
    rw [List.length_append, mov_len v] at this
    omega
  refine if_d (fun h => ?_) fun h => ?_
  · have h : (1 : Int) < (m : Int) := h
    have e2 := mov_2 (v := m) (by omega)
    refine ⟨by decide, ?_⟩
    refine if_d (fun o => ?_) fun o => ?_
    · have o : (m : Int) % 2 = 1 := o
      rw [if_pos (by omega)] at e2
      refine ⟨⟨by decide, by decide⟩, Nat.le_of_ble_eq_true rfl, by rw [List.length_map]; exact ml, ⟨by decide, by decide⟩, ?_⟩
      refine ⟨m / 2, by omega, m / 2, ms ++ [(true, ((m / 2 + 1 : Nat) : Int))], rfl, by rw [List.append_assoc, ← e, e2]; rfl, ?_⟩
      have e3 : ((m / 2 + 1 : Nat) : Int) = (m : Int) / 2 + 1 := by omega
      rw [List.map_append, e3, ← nat_half]; rfl
    · have o : ¬ (m : Int) % 2 = 1 := o
      rw [if_neg (by omega)] at e2
      refine ⟨⟨by decide, by decide⟩, Nat.le_of_ble_eq_true rfl, by rw [List.length_map]; exact ml, ⟨by decide, by decide⟩, ?_⟩
      refine ⟨m / 2, by omega, m / 2, ms ++ [(false, ((m / 2 : Nat) : Int))], rfl, by rw [List.append_assoc, ← e, e2]; rfl, ?_⟩
      rw [List.map_append, ← nat_half]; rfl
  · have h : ¬ (1 : Int) < (m : Int) := h
    have := mov_1 (v := m) (by omega)
    rw [this, List.append_nil] at e
    rw [← e] at hq
    exact hq _
end Itp

/-! Does: whether a standing does for a strip, by the program and by the law; powers of two; drawn strips. -/
namespace Itp
open PySem
def doesB (l r v p M : Int) : Bool :=
  if p > l ∨ v - 1 - p > r then false else
  if l - p ≤ v + 1 ∧ (l + (v - 1 - p) + 1) * M ≥ l + r + 1 then true else decide (r - (v - 1 - p) ≤ v ∧ (p + r + 2) * M ≥ l + r + 2)
def Big (i : Int) : Prop := i.natAbs ≤ 2 ^ 1000
theorem big_of {i : Int} (h : i.natAbs ≤ 2 ^ 1003) : i.natAbs < 2 ^ 8000 := Nat.lt_of_le_of_lt h (Nat.pow_lt_pow_right (by decide) (by decide))
theorem b3 {a b c : Int} (ha : Big a) (hb : Big b) (hc : Big c) : (a + b + c).natAbs < 2 ^ 8000 := by
  unfold Big at *
  refine big_of ?_
  have e : (2 : Nat) ^ 1003 = 8 * 2 ^ 1000 := by decide +kernel
  rw [e]
  omega
def stD (j v p : Int) : D := .tup [.int j, .int v, .int p]
theorem small_big {i : Int} (h0 : -(10 ^ 70) ≤ i) (h1 : i ≤ 10 ^ 70) : Big i := by
  unfold Big
  have e : (10 : Nat) ^ 70 ≤ 2 ^ 1000 := by decide +kernel
  have e2 : ((10 : Int)) ^ 70 = ((10 ^ 70 : Nat) : Int) := by decide +kernel
  omega
def SpDoesL (C : Ct) : Prop := ∀ (l r j v p M : Int) Q, Big l → Big r → Big v → Big p → M.natAbs < 2 ^ 8000 → Q (.d (.bl (doesB l r v p M))) [some (.d (.int l)), some (.d (.int r)), some (.d (stD j v p)), some (.d (.int M))] → C "_law_does" [.d (.int l), .d (.int r), .d (stD j v p), .d (.int M)] Q
theorem mul1 {l v p : Int} (h1 : Big l) (h2 : Big v) (h3 : Big p) : (l + (v - 1 - p) + 1).natAbs < 2 ^ 8000 := by
  unfold Big at *
  refine big_of ?_
  have e : (2 : Nat) ^ 1003 = 8 * 2 ^ 1000 := by decide +kernel
  have e2 : 2 ≤ 2 ^ 1000 := by decide +kernel
  rw [e]
  omega
theorem mul2 {p r : Int} (h1 : Big p) (h2 : Big r) : (p + r + 2).natAbs < 2 ^ 8000 := by
  unfold Big at *
  refine big_of ?_
  have e : (2 : Nat) ^ 1003 = 8 * 2 ^ 1000 := by decide +kernel
  have e2 : 2 ≤ 2 ^ 1000 := by decide +kernel
  rw [e]
  omega
theorem doesL_ok {T : Tab} (tn : T "_law_does" = some ⟨4, 8, B_l_does⟩) : ∀ k, 1 ≤ k → SpDoesL (call T k) := lvl 1 fun j l r jj v p M Q hl hr hv hp hM hq => by
  refine run_call tn rfl ?_
  generalize call T j = C
  have fin : ∀ b, b = doesB l r v p M → Q (.d (.bl b)) [some (.d (.int l)), some (.d (.int r)), some (.d (stD jj v p)), some (.d (.int M))] := fun b hb => by rw [hb]; exact hq
  have last : ∀ b, b = doesB l r v p M → Q (.d (.bl b)) [some (.d (.int l)), some (.d (.int r)), some (.d (stD jj v p)), some (.d (.int M))] := fin
  have two : ¬ (p > l ∨ v - 1 - p > r) → ¬ (l - p ≤ v + 1 ∧ (l + (v - 1 - p) + 1) * M ≥ l + r + 1) → doesB l r v p M = decide (r - (v - 1 - p) ≤ v ∧ (p + r + 2) * M ≥ l + r + 2) := fun n1 n2 => by
    unfold doesB; rw [if_neg n1, if_neg n2]
  have second : ∀ E : En, E.rt = (rEnds 4 Q).rt → ¬ (p > l ∨ v - 1 - p > r) → ¬ (l - p ≤ v + 1 ∧ (l + (v - 1 - p) + 1) * M ≥ l + r + 1) → rS C (.ret (.and_ (.cmp .LtE (.bin .Sub (.var 1) (.var 7)) (.var 5)) (.cmp .GtE (.bin .Mult (.bin .Add (.bin .Add (.var 6) (.var 1)) (.cst (.int 2))) (.var 3)) (.bin .Add (.bin .Add (.var 0) (.var 1)) (.cst (.int 2)))))) E [some (.d (.int l)), some (.d (.int r)), some (.d (stD jj v p)), some (.d (.int M)), some (.d (.int jj)), some (.d (.int v)), some (.d (.int p)), some (.d (.int (v - 1 - p)))] := by
    intro E hE n1 n2
    have t := two n1 n2
    refine if_d (fun h1 => ?_) fun h1 => ?_
    · refine ⟨.inr (.inr ⟨mul2 hp hr, hM⟩), ?_⟩
      rw [hE]
      refine fin _ ?_
      rw [t]
      have h1 : r - (v - 1 - p) ≤ v := h1
      by_cases z : (p + r + 2) * M ≥ l + r + 2
      · rw [decide_eq_true z, decide_eq_true ⟨h1, z⟩]
      · rw [decide_eq_false z, decide_eq_false fun y => z y.2]
    · show E.rt _ _
      rw [hE]
      refine fin _ ?_
      rw [t, decide_eq_false fun y => h1 y.1]
  refine if_d (fun h1 => ?_) fun h1 => ?_
  · exact fin _ (by unfold doesB; rw [if_pos (.inl h1)])
  · refine if_d (fun h2 => ?_) fun h2 => ?_
    · exact fin _ (by unfold doesB; rw [if_pos (.inr h2)])
    · have n1 : ¬ (p > l ∨ v - 1 - p > r) := fun z => by rcases z with z | z; exact h1 z; exact h2 z
      refine if_d (fun h3 => ?_) fun h3 => ?_
      · refine ⟨.inr (.inr ⟨mul1 hl hv hp, hM⟩), ?_⟩
        refine if_d (fun h4 => ?_) fun h4 => ?_
        · exact fin _ (by unfold doesB; rw [if_neg n1, if_pos ⟨h3, h4⟩])
        · show rS _ _ _ _
          refine second _ ?_ n1 fun z => h4 z.2
          rfl
      · show rS _ _ _ _
        refine second _ ?_ n1 fun z => h3 z.1
        rfl
def SpDoes (C : Ct) : Prop := ∀ (l r v p : Int) (j : Nat) Q, Big l → Big r → Big v → Big p → 0 ≤ l → 0 ≤ r → (∀ (k : Nat), k ≤ j → (k = j ∨ l + r + 1 < 2 ^ k) → Q (.d (.bl (doesB l r v p (2 ^ k)))) [some (.d (.int l)), some (.d (.int r)), some (.d (stD j v p))]) → C "does" [.d (.int l), .d (.int r), .d (stD j v p)] Q
theorem does_ok {T : Tab} (tn : T "does" = some ⟨3, 9, B_does⟩) : ∀ k, 1 ≤ k → SpDoes (call T k) := lvl 1 fun i l r v p j Q hl hr hv hp l0 r0 hq => by
  refine run_call tn rfl ?_
  generalize call T i = C
  have out : (p > l ∨ v - 1 - p > r) → Q (.d (.bl false)) [some (.d (.int l)), some (.d (.int r)), some (.d (stD j v p))] := fun z => by
    have := hq j (Nat.le_refl _) (.inl rfl)
    unfold doesB at this
    rw [if_pos z] at this
    exact this
  refine if_d (fun h1 => out (.inl h1)) fun h1 => ?_
  refine if_d (fun h2 => out (.inr h2)) fun h2 => ?_
  have n1 : ¬ (p > l ∨ v - 1 - p > r) := fun z => by rcases z with z | z; exact h1 z; exact h2 z
  refine ⟨fun m s => ∃ k : Nat, m = j - k ∧ k ≤ j ∧ (k = 0 ∨ (2 : Int) ^ k ≤ 2 * (l + r + 1)) ∧ s = [some (.d (.int l)), some (.d (.int r)), some (.d (stD j v p)), some (.d (.int ((j : Int) - (k : Int)))), some (.d (.int v)), some (.d (.int p)), some (.d (.int (v - 1 - p))), some (.d (.int (l + r + 1))), some (.d (.int ((2 : Int) ^ k)))], ⟨_, 0, rfl, Nat.zero_le _, .inl rfl, by rw [Int.pow_zero]; show _ = ([_, _, _, some (.d (.int ((j : Int) - 0))), _, _, _, _, _] : St); rw [Int.sub_zero]⟩, ?_⟩
  rintro m s ⟨k, rfl, hk, hb, rfl⟩
  have bM : ((2 : Int) ^ k).natAbs < 2 ^ 8000 := by
    rcases hb with rfl | hb
    · decide +kernel
    · refine big_of ?_
      unfold Big at hl hr
      have e : (2 : Nat) ^ 1003 = 8 * 2 ^ 1000 := by decide +kernel
      have e2 : 2 ≤ 2 ^ 1000 := by decide +kernel
      have := Int.pow_pos (n := 2) (m := k) (by decide)
      rw [e]
      omega
  have done : (k = j ∨ l + r + 1 < 2 ^ k) → rS C (.seq (.ite (.and_ (.cmp .LtE (.bin .Sub (.var 0) (.var 5)) (.bin .Add (.var 4) (.cst (.int 1)))) (.cmp .GtE (.bin .Mult (.bin .Add (.bin .Add (.var 0) (.var 6)) (.cst (.int 1))) (.var 8)) (.var 7))) (.ret (.cst (.bl true))) .skip) (.ret (.and_ (.cmp .LtE (.bin .Sub (.var 1) (.var 6)) (.var 4)) (.cmp .GtE (.bin .Mult (.bin .Add (.bin .Add (.var 5) (.var 1)) (.cst (.int 2))) (.var 8)) (.bin .Add (.var 7) (.cst (.int 1))))))) (rEnds 3 Q) [some (.d (.int l)), some (.d (.int r)), some (.d (stD j v p)), some (.d (.int ((j : Int) - (k : Int)))), some (.d (.int v)), some (.d (.int p)), some (.d (.int (v - 1 - p))), some (.d (.int (l + r + 1))), some (.d (.int ((2 : Int) ^ k)))] := by
    intro hd
    have hq := hq k hk hd
    have two : ¬ (l - p ≤ v + 1 ∧ (l + (v - 1 - p) + 1) * 2 ^ k ≥ l + r + 1) → doesB l r v p (2 ^ k) = decide (r - (v - 1 - p) ≤ v ∧ (p + r + 2) * 2 ^ k ≥ l + r + 2) := fun n2 => by
      unfold doesB; rw [if_neg n1, if_neg n2]
    have second : ∀ E : En, E.rt = (rEnds 3 Q).rt → ¬ (l - p ≤ v + 1 ∧ (l + (v - 1 - p) + 1) * 2 ^ k ≥ l + r + 1) → rS C (.ret (.and_ (.cmp .LtE (.bin .Sub (.var 1) (.var 6)) (.var 4)) (.cmp .GtE (.bin .Mult (.bin .Add (.bin .Add (.var 5) (.var 1)) (.cst (.int 2))) (.var 8)) (.bin .Add (.var 7) (.cst (.int 1)))))) E [some (.d (.int l)), some (.d (.int r)), some (.d (stD j v p)), some (.d (.int ((j : Int) - (k : Int)))), some (.d (.int v)), some (.d (.int p)), some (.d (.int (v - 1 - p))), some (.d (.int (l + r + 1))), some (.d (.int ((2 : Int) ^ k)))] := by
      intro E hE n2
      have t := two n2
      rw [t] at hq
      refine if_d (fun h1 => ?_) fun h1 => ?_
      · refine ⟨.inr (.inr ⟨mul2 hp hr, bM⟩), ?_⟩
        have h1 : r - (v - 1 - p) ≤ v := h1
        have e : decide (l + r + 1 + 1 ≤ (p + r + 2) * 2 ^ k) = decide (r - (v - 1 - p) ≤ v ∧ (p + r + 2) * 2 ^ k ≥ l + r + 2) := by
          by_cases z : (p + r + 2) * 2 ^ k ≥ l + r + 2
          · rw [decide_eq_true (show l + r + 1 + 1 ≤ (p + r + 2) * 2 ^ k by omega), decide_eq_true (show r - (v - 1 - p) ≤ v ∧ (p + r + 2) * 2 ^ k ≥ l + r + 2 from ⟨h1, z⟩)]
          · rw [decide_eq_false (show ¬ l + r + 1 + 1 ≤ (p + r + 2) * 2 ^ k by omega), decide_eq_false (show ¬ (r - (v - 1 - p) ≤ v ∧ (p + r + 2) * 2 ^ k ≥ l + r + 2) from fun y => z y.2)]
        show E.rt (.v (.d (.bl (decide (l + r + 1 + 1 ≤ (p + r + 2) * 2 ^ k))))) _
        rw [hE, e]
        exact hq
      · show E.rt _ _
        rw [hE]
        rw [decide_eq_false fun y => h1 y.1] at hq
        exact hq
    refine if_d (fun h3 => ?_) fun h3 => ?_
    · refine ⟨.inr (.inr ⟨mul1 hl hv hp, bM⟩), ?_⟩
      refine if_d (fun h4 => ?_) fun h4 => ?_
      · unfold doesB at hq
        rw [if_neg n1, if_pos ⟨h3, h4⟩] at hq
        exact hq
      · show rS _ _ _ _
        refine second _ ?_ fun z => h4 z.2
        rfl
    · show rS _ _ _ _
      refine second _ ?_ fun z => h3 z.1
      rfl
  refine if_d (fun h3 => ?_) fun h3 => ?_
  · have h3 : (0 : Int) < (j : Int) - (k : Int) := h3
    refine if_d (fun h4 => ?_) fun h4 => ?_
    · have h4 : (2 : Int) ^ k ≤ l + r + 1 := h4
      refine ⟨.inl ⟨by decide, by decide⟩, ?_⟩
      refine ⟨j - (k + 1), by omega, k + 1, rfl, by omega, .inr ?_, ?_⟩
      · rw [Int.pow_succ]; omega
      · have e1 : (j : Int) - ((k + 1 : Nat) : Int) = (j : Int) - (k : Int) - 1 := by omega
        have e2 : (2 : Int) ^ (k + 1) = 2 * 2 ^ k := by rw [Int.pow_succ, Int.mul_comm]
        rw [e1, e2]
    · show rS _ _ _ _
      exact done (.inr (by omega))
  · have h3 : ¬ (0 : Int) < (j : Int) - (k : Int) := h3
    show rS _ _ _ _
    exact done (.inl (by omega))
theorem does_big {l r v p M : Int} (l0 : 0 ≤ l) (r0 : 0 ≤ r) (p0 : 0 ≤ p) (q0 : 0 ≤ v - 1 - p) (h : l + r + 1 < M) : doesB l r v p M = (if p > l ∨ v - 1 - p > r then false else if l - p ≤ v + 1 then true else decide (r - (v - 1 - p) ≤ v)) := by
  have a : 1 * M ≤ (l + (v - 1 - p) + 1) * M := Int.mul_le_mul_of_nonneg_right (by omega) (by omega)
  have b : 2 * M ≤ (p + r + 2) * M := Int.mul_le_mul_of_nonneg_right (by omega) (by omega)
  unfold doesB
  split
  · rfl
  · by_cases c : l - p ≤ v + 1
    · rw [if_pos ⟨c, by omega⟩, if_pos c]
    · rw [if_neg fun z => c z.1, if_neg c]
      by_cases d : r - (v - 1 - p) ≤ v
      · rw [decide_eq_true d, decide_eq_true ⟨d, by omega⟩]
      · rw [decide_eq_false d, decide_eq_false fun z => d z.1]
/-- the power that the law takes says the same -/
theorem does_same {l r v p : Int} {j k n : Nat} (l0 : 0 ≤ l) (r0 : 0 ≤ r) (p0 : 0 ≤ p) (q0 : 0 ≤ v - 1 - p) (hk : k ≤ j) (h : k = j ∨ l + r + 1 < 2 ^ k) (hn : l + r + 1 < 2 ^ n) : doesB l r v p (2 ^ k) = doesB l r v p (2 ^ (min n j)) := by
  have pw : ∀ {a b : Nat}, a ≤ b → (2 : Int) ^ a ≤ 2 ^ b := fun {a b} h => by
    have : 2 ^ a ≤ 2 ^ b := Nat.pow_le_pow_right (by decide) h
    have e1 : ((2 ^ a : Nat) : Int) = (2 : Int) ^ a := by simp
    have e2 : ((2 ^ b : Nat) : Int) = (2 : Int) ^ b := by simp
    omega
  by_cases c : l + r + 1 < 2 ^ k
  · have : l + r + 1 < 2 ^ (min n j) := by
      rcases Nat.le_total n j with z | z
      · rw [Nat.min_eq_left z]; exact hn
      · rw [Nat.min_eq_right z]; exact Int.lt_of_lt_of_le c (pw hk)
    rw [does_big l0 r0 p0 q0 c, does_big l0 r0 p0 q0 this]
  · have e : k = j := by rcases h with h | h; exact h; exact absurd h c
    have : j ≤ n := by
      rcases Nat.le_total n j with z | z
      · have := pw z
        rw [e] at c
        omega
      · exact z
    rw [Nat.min_eq_right this, e]
def powD (i : Nat) : D := .int ((2 : Int) ^ i)
def SpPowers (C : Ct) : Prop := ∀ (n : Nat) Q, n ≤ 7000 → (∀ f, Q (.l false ((List.range (n + 1)).map powD)) [f]) → C "_law_powers" [.d (.int (n : Int))] Q
theorem powers_ok {T : Tab} (tn : T "_law_powers" = some ⟨1, 3, B_l_powers⟩) : ∀ k, 1 ≤ k → SpPowers (call T k) := lvl 1 fun j n Q hn hq => by
  refine run_call tn rfl ?_
  generalize call T j = C
  refine ⟨Nat.le_of_ble_eq_true rfl, ⟨by omega, by omega⟩, ?_⟩
  show forL _ _ _ _ _ _
  refine forL_inv _ (fun i s => ∃ o2, fr o2 ∧ i ≤ n ∧ s = [some (.d (.int (n : Int))), some (.l false ((List.range (i + 1)).map powD)), o2]) (fun i x s N hN hx hs => ?_) (fun s hs => ?_) _ ⟨none, fr.n, Nat.zero_le _, rfl⟩
  · obtain ⟨o2, f2, hi, rfl⟩ := hs
    obtain ⟨hi, rfl⟩ := rangeD_at hx
    have hi : i < n := by omega
    refine ⟨_, put_fr rfl f2, ?_⟩
    have ix : L2.atI ((List.range (i + 1)).map powD) (-1) = some (powD i) := by
      refine atI_last powD ?_
      rw [List.length_range, List.getElem?_range (by omega)]
      rfl
    refine ⟨_, ix, .inl ⟨by decide, by decide⟩, ?_⟩
    refine ⟨by rw [List.length_map, List.length_range]; show _ < 16777216; omega, ?_⟩
    refine hN _ ⟨some (.d (.int (0 + (i : Int)))), fr.x, by omega, ?_⟩
    have e2 : (2 : Int) ^ (i + 1) = 2 * 2 ^ i := by rw [Int.pow_succ, Int.mul_comm]
    have e3 : powD (i + 1) = .int (2 * 2 ^ i) := by unfold powD; rw [e2]
    rw [List.range_succ (n := i + 1), List.map_append, List.map_singleton, e3]
  · obtain ⟨o2, f2, hi, rfl⟩ := hs
    rw [rangeD_len]
    exact hq _
theorem pow_at {n i : Nat} (h : i ≤ n) : L2.atI ((List.range (n + 1)).map powD) (i : Int) = some (.int ((2 : Int) ^ i)) := by
  refine atI_map_nat powD (x := i) ?_
  rw [List.getElem?_range (by omega)]
def SpStrip (C : Ct) : Prop := ∀ h Q, Hand h → (∀ l r h', Hand h' → 0 ≤ l → l ≤ 2 * 10 ^ 60 → 0 ≤ r → r ≤ 2 * 10 ^ 60 → Q (.d (.tup [.int l, .int r])) [some (.l true h')]) → C "_law_strip" [.l true h] Q
theorem strip_ok {T : Tab} (t : DrawT T) (tn : T "_law_strip" = some ⟨1, 3, B_l_strip⟩) : ∀ k, 4 ≤ k → SpStrip (call T k) := lvl 4 fun j h Q hh hq => by
  have dr := draw_ok t (k := j + 3) (by omega)
  refine run_call tn rfl ?_
  generalize call T (j + 3) = C at dr ⊢
  refine dr _ _ _ hh (by decide) (by decide) fun w h1 hh1 w0 w1 => ?_
  refine if_d (fun _ => ?_) fun _ => ?_
  · refine dr _ _ _ hh1 (by decide) (by decide) fun a h2 hh2 a0 a1 => ?_
    refine dr _ _ _ hh2 (by decide) (by decide) fun b h3 hh3 b0 b1 => ?_
    exact ⟨Nat.le_of_ble_eq_true rfl, hq a b _ hh3 a0 (by omega) b0 (by omega)⟩
  refine if_d (fun _ => ?_) fun _ => ?_
  · refine dr _ _ _ hh1 (by decide) (by decide) fun a h2 hh2 a0 a1 => ?_
    refine dr _ _ _ hh2 (by decide) (by decide) fun b h3 hh3 b0 b1 => ?_
    exact ⟨Nat.le_of_ble_eq_true rfl, hq a b _ hh3 a0 (by omega) b0 (by omega)⟩
  refine if_d (fun _ => ?_) fun _ => ?_
  · refine ⟨⟨by decide, by decide, by decide⟩, ?_⟩
    refine dr _ _ _ hh1 (by decide) (by decide) fun a h2 hh2 a0 a1 => ?_
    rw [p9] at a1
    refine ⟨Nat.le_of_ble_eq_true rfl, Nat.le_of_ble_eq_true rfl, Nat.le_of_ble_eq_true rfl, ?_⟩
    refine dr _ _ _ hh2 (by decide) (by decide) fun b h3 hh3 b0 b1 => ?_
    have hb : b = 0 ∨ b = 1 := by omega
    rcases hb with rfl | rfl
    · exact ⟨_, rfl, hq a 0 _ hh3 a0 (by omega) (by decide) (by decide)⟩
    · exact ⟨_, rfl, hq 0 a _ hh3 (by decide) (by decide) a0 (by omega)⟩
  · refine ⟨⟨by decide, by decide, by decide⟩, .inl ⟨by decide, by decide⟩, ?_⟩
    refine dr _ _ _ hh1 (by decide) (by decide) fun a h2 hh2 a0 a1 => ?_
    refine ⟨⟨by decide, by decide, by decide⟩, .inl ⟨by decide, by decide⟩, ?_⟩
    refine dr _ _ _ hh2 (by decide) (by decide) fun b h3 hh3 b0 b1 => ?_
    rw [p60] at a1 b1
    exact ⟨Nat.le_of_ble_eq_true rfl, hq a b _ hh3 a0 (by omega) b0 (by omega)⟩
end Itp

/-! Least: full, twos, slack, spans, all_standings; taken, halves. -/
namespace Itp
open PySem
def figL (v : Nat) : List Nat := if v ≤ 1 then [] else v :: figL (v / 2)
termination_by v
decreasing_by omega
theorem figL_1 {v : Nat} (h : v ≤ 1) : figL v = [] := by rw [figL, if_pos h]
theorem figL_2 {v : Nat} (h : ¬ v ≤ 1) : figL v = v :: figL (v / 2) := by conv => lhs; rw [figL, if_neg h]
theorem figL_len (v : Nat) : (figL v).length = figV v := by
  induction v using Nat.strongRecOn with
  | _ v ih =>
    by_cases z : v ≤ 1
    · rw [figL_1 z, fig_1 z]; rfl
    · rw [figL_2 z, fig_2 z, List.length_cons, ih (v / 2) (by omega)]; omega
def sumL (l : List Nat) : Nat := (l.map fun n => if n % 2 = 1 then n / 2 + 1 else 0).sum
def sumR (l : List Nat) : Nat := (l.map fun n => if n % 2 = 1 then 0 else n / 2).sum
theorem sum_fig (v : Nat) (h : 1 ≤ v) : sumL (figL v) = pV v ∧ sumL (figL v) + sumR (figL v) = v - 1 := by
  induction v using Nat.strongRecOn with
  | _ v ih =>
    by_cases z : v ≤ 1
    · rw [figL_1 z, p_1 z]; exact ⟨rfl, by show 0 = v - 1; omega⟩
    · obtain ⟨h1, h2⟩ := ih (v / 2) (by omega) (by omega)
      rw [figL_2 z, p_2 z]
      unfold sumL at h1
      unfold sumL sumR at h2 ⊢
      rw [List.map_cons, List.map_cons, List.sum_cons, List.sum_cons, h1]
      rw [h1] at h2
      refine ⟨rfl, ?_⟩
      split <;> omega
theorem sum_rev (l : List Nat) : sumL l.reverse = sumL l ∧ sumR l.reverse = sumR l := by
  unfold sumL sumR
  rw [List.map_reverse, List.map_reverse, List.sum_reverse, List.sum_reverse]
  exact ⟨rfl, rfl⟩
theorem sum_snoc (l : List Nat) (n : Nat) : sumL (l ++ [n]) = sumL l + (if n % 2 = 1 then n / 2 + 1 else 0) ∧ sumR (l ++ [n]) = sumR l + (if n % 2 = 1 then 0 else n / 2) := by
  unfold sumL sumR
  simp
def nD (n : Nat) : D := .int (n : Int)
def SpFull (C : Ct) : Prop := ∀ (v : Nat) Q, 1 ≤ v → v < 2 ^ 1000 → (∀ f, Q (.d (.tup [.int (pV v : Int), .int ((v : Int) - 1 - (pV v : Int))])) [f]) → C "full" [.d (.int (v : Int))] Q
theorem full_ok {T : Tab} (tn : T "full" = some ⟨1, 5, B_full⟩) : ∀ k, 1 ≤ k → SpFull (call T k) := lvl 1 fun j v Q h1 hv hq => by
  have fl := fig_le 1000 v hv
  refine run_call tn rfl ?_
  generalize call T j = C
  refine ⟨Nat.zero_le _, ?_⟩
  refine ⟨fun m s => ∃ (u : Nat) (ns : List Nat), m = u ∧ ns ++ figL u = figL v ∧ s = [some (.d (.int (u : Int))), some (.l false (ns.map nD)), none, none, none], ⟨_, v, [], rfl, rfl, rfl⟩, ?_⟩
  rintro m s ⟨u, ns, rfl, e, rfl⟩
  refine if_d (fun h => ?_) fun h => ?_
  · have h : (1 : Int) < (m : Int) := h
    have e2 := figL_2 (v := m) (by omega)
    refine ⟨?_, ⟨by decide, by decide⟩, ?_⟩
    · have := congrArg List.length e
      rw [List.length_append, figL_len v] at this
      rw [List.length_map]; show _ < 16777216; omega
    refine ⟨m / 2, by omega, m / 2, ns ++ [m], rfl, by rw [List.append_assoc, ← e, e2]; rfl, ?_⟩
    rw [List.map_append, ← nat_half]; rfl
  · have h : ¬ (1 : Int) < (m : Int) := h
    rw [figL_1 (by omega), List.append_nil] at e
    subst e
    refine ⟨Nat.le_of_ble_eq_true rfl, ?_⟩
    show forL _ _ _ _ _ _
    rw [← List.map_reverse]
    refine forL_inv _ (fun i s => ∃ o4, fr o4 ∧ s = [some (.d (.int (m : Int))), some (.k false ((figL v).map nD)), some (.d (.int (sumL ((figL v).reverse.take i) : Int))), some (.d (.int (sumR ((figL v).reverse.take i) : Int))), o4]) (fun i x s N hN hx hs => ?_) (fun s hs => ?_) _ ⟨none, fr.n, rfl⟩
    · obtain ⟨o4, f4, rfl⟩ := hs
      obtain ⟨n, en, rfl⟩ : ∃ n, (figL v).reverse[i]? = some n ∧ x = nD n := by
        rw [List.getElem?_map] at hx
        obtain ⟨n, e, h⟩ := Option.map_eq_some_iff.mp hx
        exact ⟨n, e, h.symm⟩
      obtain ⟨s1, s2⟩ := sum_snoc ((figL v).reverse.take i) n
      rw [List.take_add_one, en] at hN
      simp only [Option.toList_some] at hN
      rw [s1, s2] at hN
      refine ⟨_, put_fr rfl f4, ?_⟩
      refine ⟨by decide, ?_⟩
      refine if_d (fun o => ?_) fun o => ?_
      · have o : (n : Int) % 2 = 1 := o
        rw [if_pos (by omega), if_pos (by omega)] at hN
        refine ⟨⟨by decide, by decide⟩, ?_⟩
        refine hN _ ⟨some (.d (nD n)), fr.x, ?_⟩
        have e1 : ((sumL ((figL v).reverse.take i) + (n / 2 + 1) : Nat) : Int) = (sumL ((figL v).reverse.take i) : Int) + (n : Int) / 2 + 1 := by omega
        rw [e1]
        rfl
      · have o : ¬ (n : Int) % 2 = 1 := o
        rw [if_neg (by omega), if_neg (by omega)] at hN
        refine ⟨⟨by decide, by decide⟩, ?_⟩
        refine hN _ ⟨some (.d (nD n)), fr.x, ?_⟩
        have e1 : ((sumR ((figL v).reverse.take i) + n / 2 : Nat) : Int) = (sumR ((figL v).reverse.take i) : Int) + (n : Int) / 2 := by omega
        rw [e1]
        rfl
    · obtain ⟨o4, f4, rfl⟩ := hs
      rw [List.length_map, List.take_of_length_le (Nat.le_refl _), (sum_rev _).1, (sum_rev _).2]
      obtain ⟨s1, s2⟩ := sum_fig v h1
      have e1 : (sumR (figL v) : Int) = (v : Int) - 1 - (pV v : Int) := by omega
      rw [s1, e1]
      refine ⟨Nat.le_of_ble_eq_true rfl, ?_⟩
      exact hq _
/-! ### powers of two -/
theorem fig_bounds (T : Nat) (h : 1 ≤ T) : 2 ^ figV T ≤ T ∧ T < 2 ^ (figV T + 1) := by
  induction T using Nat.strongRecOn with
  | _ T ih =>
    by_cases z : T ≤ 1
    · have : T = 1 := by omega
      subst this
      rw [fig_1 z]
      decide
    · obtain ⟨h1, h2⟩ := ih (T / 2) (by omega) (by omega)
      have e : figV T = figV (T / 2) + 1 := by rw [fig_2 z]; omega
      rw [e]
      have e1 : 2 ^ (figV (T / 2) + 1) = 2 ^ figV (T / 2) * 2 := Nat.pow_succ ..
      have e2 : 2 ^ (figV (T / 2) + 1 + 1) = 2 ^ (figV (T / 2) + 1) * 2 := Nat.pow_succ ..
      omega
theorem fig_uniq {T n : Nat} (h1 : 2 ^ n ≤ T) (h2 : T < 2 ^ (n + 1)) : figV T = n := by
  have p := Nat.pow_pos (n := n) (show 0 < 2 by decide)
  obtain ⟨b1, b2⟩ := fig_bounds T (by omega)
  rcases Nat.lt_trichotomy (figV T) n with z | z | z
  · have : 2 ^ (figV T + 1) ≤ 2 ^ n := Nat.pow_le_pow_right (by decide) z
    omega
  · exact z
  · have : 2 ^ (n + 1) ≤ 2 ^ figV T := Nat.pow_le_pow_right (by decide) z
    omega
def twosL (T : Nat) : List D := (List.range (figV T + 1)).map powD
theorem pow_cast (n : Nat) : ((2 ^ n : Nat) : Int) = (2 : Int) ^ n := by simp
def SpTwos (C : Ct) : Prop := ∀ (T : Nat) Q, 1 ≤ T → T < 2 ^ 1000 → (∀ f, Q (.l false (twosL T)) [f]) → C "twos" [.d (.int (T : Int))] Q
theorem last_pow (i : Nat) : L2.atI ((List.range (i + 1)).map powD) (-1) = some (powD i) := by
  refine atI_last powD ?_
  rw [List.length_range, List.getElem?_range (by omega)]
  rfl
theorem twos_ok {T : Tab} (tn : T "twos" = some ⟨1, 2, B_twos⟩) : ∀ k, 1 ≤ k → SpTwos (call T k) := lvl 1 fun j t Q h1 hv hq => by
  have fl := fig_le 1000 t hv
  obtain ⟨b1, b2⟩ := fig_bounds t h1
  refine run_call tn rfl ?_
  generalize call T j = C
  refine ⟨Nat.le_of_ble_eq_true rfl, ?_⟩
  refine ⟨fun m s => ∃ i : Nat, m = 1000 - i ∧ 2 ^ i ≤ t ∧ s = [some (.d (.int (t : Int))), some (.l false ((List.range (i + 1)).map powD))], ⟨_, 0, rfl, h1, rfl⟩, ?_⟩
  rintro m s ⟨i, rfl, hi, rfl⟩
  have il : i ≤ figV t := by
    rcases Nat.lt_or_ge (figV t) i with z | z
    · have : 2 ^ (figV t + 1) ≤ 2 ^ i := Nat.pow_le_pow_right (by decide) z
      omega
    · exact z
  refine ⟨_, last_pow i, .inl ⟨by decide, by decide⟩, ?_⟩
  have e2 : (2 : Int) * 2 ^ i = ((2 ^ (i + 1) : Nat) : Int) := by rw [pow_cast, Int.pow_succ, Int.mul_comm]
  refine if_d (fun h => ?_) fun h => ?_
  · have h : (2 : Int) * 2 ^ i ≤ (t : Int) := h
    rw [e2] at h
    refine ⟨_, last_pow i, .inl ⟨by decide, by decide⟩, by rw [List.length_map, List.length_range]; show _ < 16777216; omega, ?_⟩
    have hi2 : 2 ^ (i + 1) ≤ t := by omega
    have il2 : i + 1 ≤ figV t := by
      rcases Nat.lt_or_ge (figV t) (i + 1) with z | z
      · have : 2 ^ (figV t + 1) ≤ 2 ^ (i + 1) := Nat.pow_le_pow_right (by decide) z
        omega
      · exact z
    refine ⟨1000 - (i + 1), by omega, i + 1, rfl, hi2, ?_⟩
    have e3 : powD (i + 1) = .int (2 * 2 ^ i) := by unfold powD; rw [Int.pow_succ, Int.mul_comm]
    rw [List.range_succ (n := i + 1), List.map_append, List.map_singleton, e3]
  · have h : ¬ (2 : Int) * 2 ^ i ≤ (t : Int) := h
    rw [e2] at h
    have : figV t = i := fig_uniq hi (by omega)
    unfold twosL at hq
    rw [this] at hq
    exact hq _
def slackN (T : Nat) : Int := 2 * 2 ^ figV T - (T : Int)
def SpSlack (C : Ct) : Prop := ∀ (T : Nat) Q, 1 ≤ T → T < 2 ^ 1000 → (∀ f, Q (.d (.int (slackN T))) [f]) → C "slack" [.d (.int (T : Int))] Q
theorem slack_ok {T : Tab} (tt : T "twos" = some ⟨1, 2, B_twos⟩) (tn : T "slack" = some ⟨1, 1, B_slack⟩) : ∀ k, 2 ≤ k → SpSlack (call T k) := lvl 2 fun j t Q h1 hv hq => by
  have tw := twos_ok tt (j + 1) (by omega)
  refine run_call tn rfl ?_
  generalize call T (j + 1) = C at tw ⊢
  refine tw t _ h1 hv fun f => ?_
  exact ⟨_, last_pow _, .inl ⟨by decide, by decide⟩, hq _⟩
def SpNeed (C : Ct) : Prop := ∀ (l r : Int) (T : Nat) Q, l + r + 1 = (T : Int) → 1 ≤ T → T < 2 ^ 1000 → (T ≤ 4000 ∨ slackN T ≤ 4000) → (∀ f0 f1, Q (.d .non) [f0, f1]) → C "need_few" [.d (.int l), .d (.int r)] Q
theorem need_ok {T : Tab} (tt : T "twos" = some ⟨1, 2, B_twos⟩) (ts : T "slack" = some ⟨1, 1, B_slack⟩) (tn : T "need_few" = some ⟨2, 3, B_need_few⟩) : ∀ k, 3 ≤ k → SpNeed (call T k) := lvl 3 fun j l r t Q et h1 hv hs hq => by
  have sl := slack_ok tt ts (j + 2) (by omega)
  refine run_call tn rfl ?_
  generalize call T (j + 2) = C at sl ⊢
  have step : rS C (.ite (.and_ (.cmp .Gt (.var 2) (.cst (.int 4000))) (.cmp .Gt (.call "slack" (.cons (.fz (.var 2)) .nil)) (.cst (.int 4000)))) .never .skip) (rEnds 2 Q) [some (.d (.int l)), some (.d (.int r)), some (.d (.int (t : Int)))] := by
    refine if_d (fun h => ?_) fun h => hq _ _
    have h : (4000 : Int) < (t : Int) := h
    refine sl t _ h1 hv fun f => ?_
    refine if_d (fun h2 => ?_) fun h2 => hq _ _
    have h2 : (4000 : Int) < slackN t := h2
    omega
  show rS C _ _ [some (.d (.int l)), some (.d (.int r)), some (.d (.int (l + r + 1)))]
  rw [et]
  exact step
/-! ### the standings in question -/
theorem atI_neg {α : Type} {xs : List α} {k : Nat} {x : α} (h : k < xs.length) (e : xs[xs.length - 1 - k]? = some x) : ∀ z : Int, z = -1 - (k : Int) → L2.atI xs z = some x := by
  rintro z rfl
  unfold L2.atI L2.ixN
  rw [if_neg (by omega), if_pos (by omega), Option.bind_some]
  have : (-1 - (k : Int) + (xs.length : Int)).toNat = xs.length - 1 - k := by omega
  rw [this, e]
theorem two_at {f k : Nat} (h : k ≤ f) : ∀ z : Int, z = -1 - (k : Int) → L2.atI ((List.range (f + 1)).map powD) z = some (powD (f - k)) := by
  refine atI_neg (by rw [List.length_map, List.length_range]; omega) ?_
  rw [List.length_map, List.length_range, List.getElem?_map, List.getElem?_range (by omega)]
  have : f + 1 - 1 - k = f - k := by omega
  rw [this]
  rfl
def loN (T j : Nat) : Nat := if 2 ^ (figV T - 1 - j) < (T + 2 ^ j - 1) / 2 ^ j / 2 then (T + 2 ^ j - 1) / 2 ^ j / 2 else 2 ^ (figV T - 1 - j)
def hiN (T j : Nat) : Nat := 2 ^ (figV T - j) - 1
def spanD (T j : Nat) : D := .tup [.int (loN T j : Int), .int (hiN T j : Int)]
theorem cut_ini {α : Type} (xs : List α) (h : 0 < xs.length) : cut xs none (some (-1)) = xs.take (xs.length - 1) := by
  unfold cut
  have e : HT.sIx xs.length xs.length (some (-1)) = xs.length - 1 := by
    unfold HT.sIx
    simp
    omega
  rw [HT.sIx_none, e]
  simp
def SpSpans (C : Ct) : Prop := ∀ (T : Nat) Q, 1 ≤ T → T < 2 ^ 1000 → (∀ f, Q (.l false ((List.range (figV T)).map (spanD T))) [f]) → C "spans" [.d (.int (T : Int))] Q
theorem spans_ok {T : Tab} (tt : T "twos" = some ⟨1, 2, B_twos⟩) (tn : T "spans" = some ⟨1, 6, B_spans⟩) : ∀ k, 2 ≤ k → SpSpans (call T k) := lvl 2 fun j t Q h1 hv hq => by
  have tw := twos_ok tt (j + 1) (by omega)
  refine run_call tn rfl ?_
  generalize call T (j + 1) = C at tw ⊢
  have fl := fig_le 1000 t hv
  refine tw t _ h1 hv fun f => ?_
  refine ⟨Nat.zero_le _, ?_⟩
  show forL _ _ _ _ _ _
  have ec : cut (twosL t) none (some (-1)) = (List.range (figV t)).map powD := by
    unfold twosL
    rw [cut_ini _ (by simp), ← List.map_take, List.length_map, List.length_range, List.take_range]
    congr 2
    omega
  rw [ec]
  refine forL_inv _ (fun i s => ∃ o3 o4 o5, fr o3 ∧ fr o4 ∧ fr o5 ∧ i ≤ figV t ∧ s = [some (.d (.int (t : Int))), some (.d (.lst (twosL t))), some (.l false ((List.range i).map (spanD t))), o3, o4, o5]) (fun i x s N hN hx hs => ?_) (fun s hs => ?_) _ ⟨none, none, none, fr.n, fr.n, fr.n, Nat.zero_le _, rfl⟩
  · obtain ⟨o3, o4, o5, f3, f4, f5, hi, rfl⟩ := hs
    obtain ⟨n, en, rfl⟩ := enum_map hx
    have hi : i < figV t := by
      have := (List.getElem?_eq_some_iff.mp en).1
      simpa using this
    have : n = i := by
      rw [List.getElem?_range hi] at en
      exact (Option.some.inj en).symm
    subst this
    have bM : ((2 : Int) ^ n).natAbs < 2 ^ 8000 := by
      rw [← pow_cast, Int.natAbs_natCast]
      exact Nat.pow_lt_pow_right (by decide) (by omega)
    have pM : (0 : Int) < 2 ^ n := Int.pow_pos (by decide)
    refine ⟨_, tg2 (i := 3) (j := 4) rfl f3 rfl f4, ?_⟩
    refine ⟨⟨pM, bM⟩, ⟨by decide, by decide⟩, ?_⟩
    show putK _ _ _ _
    refine putK_of rfl f5 ?_
    have ix1 : L2.atI (twosL t) (-2 - (n : Int)) = some (powD (figV t - 1 - n)) := by
      have := two_at (f := figV t) (k := n + 1) (by omega) (-2 - (n : Int)) (by omega)
      unfold twosL
      rw [this]
      congr 2
      omega
    have ix2 : L2.atI (twosL t) (-1 - (n : Int)) = some (powD (figV t - n)) := two_at (by omega) _ rfl
    refine ⟨_, ix1, _, ix2, Nat.le_of_ble_eq_true rfl, by rw [List.length_map, List.length_range]; show _ < 16777216; omega, ?_⟩
    refine hN _ ⟨some (.d (.int (n : Int))), some (.d (powD n)), some (.d (.int (((t : Int) + 2 ^ n - 1) / 2 ^ n / 2))), fr.x, fr.x, fr.x, by omega, ?_⟩
    have e1 : ((t : Int) + 2 ^ n - 1) / 2 ^ n / 2 = (((t + 2 ^ n - 1) / 2 ^ n / 2 : Nat) : Int) := by
      rw [← pow_cast]
      have := Nat.pow_pos (n := n) (show 0 < 2 by decide)
      generalize 2 ^ n = M at this ⊢
      have : (t : Int) + (M : Int) - 1 = ((t + M - 1 : Nat) : Int) := by omega
      rw [this]
      rfl
    have e2 : (2 : Int) ^ (figV t - n) - 1 = (hiN t n : Int) := by
      unfold hiN
      rw [← pow_cast]
      have := Nat.pow_pos (n := figV t - n) (show 0 < 2 by decide)
      omega
    have e3 : (if (((t + 2 ^ n - 1) / 2 ^ n / 2 : Nat) : Int) > 2 ^ (figV t - 1 - n) then (((t + 2 ^ n - 1) / 2 ^ n / 2 : Nat) : Int) else 2 ^ (figV t - 1 - n)) = (loN t n : Int) := by
      unfold loN
      rw [← pow_cast]
      split
      · rw [if_pos (by omega)]
      · rw [if_neg (by omega)]
    have e4 : spanD t n = .tup [.int (if ((t : Int) + 2 ^ n - 1) / 2 ^ n / 2 > 2 ^ (figV t - 1 - n) then ((t : Int) + 2 ^ n - 1) / 2 ^ n / 2 else 2 ^ (figV t - 1 - n)), .int (2 ^ (figV t - n) - 1)] := by
      rw [e1, e3, e2]
      rfl
    rw [List.range_succ, List.map_append, List.map_singleton, e4]
  · obtain ⟨o3, o4, o5, f3, f4, f5, hi, rfl⟩ := hs
    rw [enumB_len, List.length_map, List.length_range]
    exact hq _
def stJ (T j : Nat) : List (Nat × Nat) := (List.range (hiN T j + 1 - loN T j)).map fun i => (j, loN T j + i)
def stP (T i : Nat) : List (Nat × Nat) := ((List.range i).map (stJ T)).flatten
def stL (T : Nat) : List (Nat × Nat) := stP T (figV T)
theorem stP_succ (T i : Nat) : stP T (i + 1) = stP T i ++ stJ T i := by
  unfold stP
  rw [List.range_succ, List.map_append, List.flatten_append]
  simp
theorem stP_le (T : Nat) : ∀ (d i : Nat), (stP T i).length ≤ (stP T (i + d)).length
  | 0, i => Nat.le_refl _
  | d + 1, i => by
    have := stP_le T d i
    rw [show i + (d + 1) = (i + d) + 1 by omega, stP_succ, List.length_append]
    omega
def stvD (x : Nat × Nat) : D := stD x.1 x.2 (pV x.2)
theorem stJ_pos {T j : Nat} {x : Nat × Nat} (h : x ∈ stJ T j) : x.1 = j ∧ 2 ^ (figV T - 1 - j) ≤ x.2 ∧ x.2 ≤ hiN T j := by
  unfold stJ at h
  obtain ⟨i, hi, rfl⟩ := List.mem_map.mp h
  have hi := List.mem_range.mp hi
  refine ⟨rfl, ?_, ?_⟩
  · show _ ≤ loN T j + i
    unfold loN
    split <;> omega
  · show loN T j + i ≤ _
    omega
def SpAllSt (C : Ct) : Prop := ∀ (T : Nat) Q, 1 ≤ T → T < 2 ^ 900 → (stL T).length ≤ 1000000 → (∀ f, Q (.l false ((stL T).map stvD)) [f]) → C "all_standings" [.d (.int (T : Int))] Q
theorem all_st_ok {T : Tab} (tt : T "twos" = some ⟨1, 2, B_twos⟩) (ts : T "spans" = some ⟨1, 6, B_spans⟩) (tf : T "full" = some ⟨1, 5, B_full⟩) (tn : T "all_standings" = some ⟨1, 6, B_all_standings⟩) : ∀ k, 3 ≤ k → SpAllSt (call T k) := lvl 3 fun j t Q h1 hv hL hq => by
  have sp := spans_ok tt ts (j + 2) (by omega)
  have fu := full_ok tf (j + 2) (by omega)
  refine run_call tn rfl ?_
  generalize call T (j + 2) = C at sp fu ⊢
  have hv2 : t < 2 ^ 1000 := Nat.lt_of_lt_of_le hv (Nat.pow_le_pow_right (by decide) (by decide))
  have fl : figV t ≤ 900 := fig_le 900 t hv
  refine ⟨Nat.zero_le _, ?_⟩
  refine sp t _ h1 hv2 fun f => ?_
  show forL _ _ _ _ _ _
  refine forL_inv _ (fun i s => ∃ o2 o3 o4 o5, fr o2 ∧ fr o3 ∧ fr o4 ∧ fr o5 ∧ i ≤ figV t ∧ s = [some (.d (.int (t : Int))), some (.l false ((stP t i).map stvD)), o2, o3, o4, o5]) (fun i x s N hN hx hs => ?_) (fun s hs => ?_) _ ⟨none, none, none, none, fr.n, fr.n, fr.n, fr.n, Nat.zero_le _, rfl⟩
  · obtain ⟨o2, o3, o4, o5, f2, f3, f4, f5, hi, rfl⟩ := hs
    obtain ⟨n, en, rfl⟩ := enum_map hx
    have hi : i < figV t := by
      have := (List.getElem?_eq_some_iff.mp en).1
      simpa using this
    have : n = i := by
      rw [List.getElem?_range hi] at en
      exact (Option.some.inj en).symm
    subst this
    have tot : (stP t n).length + (stJ t n).length ≤ 1000000 := by
      have := stP_le t (figV t - (n + 1)) (n + 1)
      rw [show n + 1 + (figV t - (n + 1)) = figV t by omega, stP_succ, List.length_append] at this
      unfold stL at hL
      omega
    refine ⟨_, tg12 rfl f2 rfl f3 rfl f4, ?_⟩
    show forL _ _ _ _ _ _
    refine forL_inv _ (fun k s => ∃ o5, fr o5 ∧ k ≤ (stJ t n).length ∧ s = [some (.d (.int (t : Int))), some (.l false ((stP t n ++ (stJ t n).take k).map stvD)), some (.d (.int (n : Int))), some (.d (.int (loN t n : Int))), some (.d (.int (hiN t n : Int))), o5]) (fun k x s N2 hN2 hx hs => ?_) (fun s hs => ?_) _ ⟨o5, f5, Nat.zero_le _, by rw [List.take_zero, List.append_nil]; rfl⟩
    · obtain ⟨o5, f5, hk, rfl⟩ := hs
      obtain ⟨hk1, rfl⟩ := rangeD_at hx
      have jl : (stJ t n).length = hiN t n + 1 - loN t n := by unfold stJ; rw [List.length_map, List.length_range]
      have hk1 : k < (stJ t n).length := by rw [jl]; omega
      have ek : (stJ t n)[k]? = some (n, loN t n + k) := by
        unfold stJ
        rw [List.getElem?_map, List.getElem?_range (by omega)]
        rfl
      have pos := stJ_pos (List.mem_of_getElem? ek)
      have p2 := Nat.pow_pos (n := figV t - 1 - n) (show 0 < 2 by decide)
      have v1 : 1 ≤ loN t n + k := by have := pos.2.1; simp only at this; omega
      have v2 : loN t n + k < 2 ^ 1000 := by
        have h3 := pos.2.2
        simp only at h3
        unfold hiN at h3
        have : 2 ^ (figV t - n) ≤ 2 ^ 1000 := Nat.pow_le_pow_right (by decide) (by omega)
        have := Nat.pow_pos (n := figV t - n) (show 0 < 2 by decide)
        omega
      have ev : (loN t n : Int) + (k : Int) = ((loN t n + k : Nat) : Int) := by omega
      rw [ev]
      refine ⟨_, put_fr rfl f5, ?_⟩
      refine fu _ _ v1 v2 fun f => ?_
      refine ⟨_, rfl, Nat.le_of_ble_eq_true rfl, ?_, ?_⟩
      · rw [List.length_map, List.length_append, List.length_take]; show _ < 16777216; omega
      refine hN2 _ ⟨some (.d (.int ((loN t n + k : Nat) : Int))), fr.x, by omega, ?_⟩
      rw [List.take_add_one, ek, ← List.append_assoc, List.map_append (l₂ := Option.toList _)]
      rfl
    · obtain ⟨o5, f5, hk, rfl⟩ := hs
      have jl : (stJ t n).length = hiN t n + 1 - loN t n := by unfold stJ; rw [List.length_map, List.length_range]
      rw [rangeD_len, List.take_of_length_le (by rw [jl]; omega), ← stP_succ]
      exact hN _ ⟨_, _, _, o5, fr.x, fr.x, fr.x, f5, by omega, rfl⟩
  · obtain ⟨o2, o3, o4, o5, f2, f3, f4, f5, hi, rfl⟩ := hs
    rw [enumB_len, List.length_map, List.length_range]
    exact hq _
end Itp

namespace K63
open PySem Itp
def topS (i : Nat) : Stmt := PySem.Challenge.pw_nearcase_k63_whole_perfect_standings.main.body.getD i (.Pass ⟨0, 0, 0, 0⟩)
def b__law_is_full : S := .seq (.ite (.or_ (.not_ (.isi (.var 0) "tuple")) (.or_ (.cmp .NotEq (.blt .len (.cons (.var 0) .nil)) (.cst (.int 2))) (.or_ (.isi (.idx (.var 0) (.cst (.int 0))) "bool") (.isi (.idx (.var 0) (.cst (.int 1))) "bool")))) (.ret (.cst (.bl false))) .skip) (.seq (.ite (.or_ (.cmp .Lt (.idx (.var 0) (.cst (.int 0))) (.cst (.int 0))) (.or_ (.cmp .Lt (.idx (.var 0) (.cst (.int 1))) (.cst (.int 0))) (.cmp .NotEq (.bin .Add (.idx (.var 0) (.cst (.int 0))) (.idx (.var 0) (.cst (.int 1)))) (.bin .Sub (.var 1) (.cst (.int 1)))))) (.ret (.cst (.bl false))) .skip) (.seq (.ite (.cmp .Eq (.var 1) (.cst (.int 1))) (.ret (.cmp .Eq (.var 0) (.tup (.cons (.cst (.int 0)) (.cons (.cst (.int 0)) .nil))))) .skip) (.seq (.asgd 2 (.call "full" (.cons (.bin .FloorDiv (.var 1) (.cst (.int 2))) .nil))) (.seq (.ite (.cmp .Eq (.bin .Mod (.var 1) (.cst (.int 2))) (.cst (.int 1))) (.ret (.cmp .Eq (.var 0) (.tup (.cons (.bin .Add (.bin .Add (.idx (.var 2) (.cst (.int 0))) (.bin .FloorDiv (.var 1) (.cst (.int 2)))) (.cst (.int 1))) (.cons (.idx (.var 2) (.cst (.int 1))) .nil))))) .skip) (.ret (.cmp .Eq (.var 0) (.tup (.cons (.idx (.var 2) (.cst (.int 0))) (.cons (.bin .Add (.idx (.var 2) (.cst (.int 1))) (.bin .FloorDiv (.var 1) (.cst (.int 2)))) .nil)))))))))
def b__law_led : S := .seq (.while_ (.cmp .Gt (.bin .Add (.var 0) (.var 1)) (.cst (.int 0))) (.seq (.asg (.nm 2) (.bin .Add (.bin .Add (.var 0) (.var 1)) (.cst (.int 1)))) (.seq (.asg (.nm 3) (.tup (.cons (.cst (.str "R")) (.cons (.bin .FloorDiv (.var 2) (.cst (.int 2))) .nil)))) (.seq (.ite (.cmp .Eq (.bin .Mod (.var 2) (.cst (.int 2))) (.cst (.int 1))) (.asg (.nm 3) (.tup (.cons (.cst (.str "L")) (.cons (.bin .Add (.bin .FloorDiv (.var 2) (.cst (.int 2))) (.cst (.int 1))) .nil)))) .skip) (.seq (.ite (.cmp .Gt (.idx (.var 3) (.cst (.int 1))) (.call "_law_most" (.cons (.fz (.var 0)) (.cons (.fz (.var 1)) (.cons (.fz (.idx (.var 3) (.cst (.int 0)))) .nil))))) (.ret (.cst .non)) .skip) (.asg (.tp (.cons (.nm 0) (.cons (.nm 1) .nil))) (.call "_law_behind" (.cons (.fz (.var 0)) (.cons (.fz (.var 1)) (.cons (.fz (.var 3)) .nil)))))))))) (.ret (.tup (.cons (.var 0) (.cons (.var 1) .nil))))
def b__law_right : S := .seq (.asgd 1 (.call "full" (.cons (.fz (.var 0)) .nil))) (.seq (.asgd 2 (.call "moves_of" (.cons (.fz (.var 0)) .nil))) (.seq (.ite (.or_ (.not_ (.call "_law_is_full" (.cons (.fz (.var 1)) (.cons (.fz (.var 0)) .nil)))) (.or_ (.not_ (.isi (.var 2) "list")) (.cmp .NotEq (.blt .len (.cons (.var 2) .nil)) (.call "_law_figures" (.cons (.fz (.var 0)) .nil))))) (.ret (.cst (.bl false))) .skip) (.seq (.ite (.not_ (.call "_law_is_alone" (.cons (.fz (.idx (.var 1) (.cst (.int 0)))) (.cons (.fz (.idx (.var 1) (.cst (.int 1)))) (.cons (.fz (.var 2)) .nil))))) (.ret (.cst (.bl false))) .skip) (.seq (.asg (.nm 3) (.var 0)) (.seq (.for_ (.nm 4) .plain (.cons (.var 2) .nil) (.seq (.ite (.cmp .NotEq (.var 4) (.idx (.lst (.cons (.tup (.cons (.cst (.str "R")) (.cons (.bin .FloorDiv (.var 3) (.cst (.int 2))) .nil))) (.cons (.tup (.cons (.cst (.str "L")) (.cons (.bin .Add (.bin .FloorDiv (.var 3) (.cst (.int 2))) (.cst (.int 1))) .nil))) .nil))) (.bin .Mod (.var 3) (.cst (.int 2))))) (.ret (.cst (.bl false))) .skip) (.asg (.nm 3) (.bin .FloorDiv (.var 3) (.cst (.int 2)))))) (.seq (.asg (.nm 5) (.cst (.int 1))) (.seq (.while_ (.cmp .LtE (.var 5) (.var 0)) (.asg (.nm 5) (.bin .Mult (.cst (.int 2)) (.var 5)))) (.ret (.and_ (.cmp .Eq (.call "slack" (.cons (.fz (.var 0)) .nil)) (.bin .Sub (.var 5) (.var 0))) (.not_ (.isi (.call "slack" (.cons (.fz (.var 0)) .nil)) "bool")))))))))))
def b_law : S := .seq (.asg (.nm 1) (.call "_law_hand" (.cons (.fz (.var 0)) .nil))) (.seq (.asg (.nm 2) (.blt .lrg (.cons (.cst (.int 1)) (.cons (.cst (.int 41)) .nil)))) (.seq (.for_ (.nm 3) .range (.cons (.cst (.int 6)) .nil) (.ex (.chg .append 2 (.cons (.bin .Add (.cst (.int 1)) (.call "_law_draw" (.cons (.var 1) (.cons (.fz (.idx (.lst (.cons (.cst (.int 300)) (.cons (.bin .Pow (.cst (.int 10)) (.cst (.int 9))) (.cons (.bin .Mult (.cst (.int 4)) (.bin .Pow (.cst (.int 10)) (.cst (.int 60)))) .nil)))) (.call "_law_draw" (.cons (.var 1) (.cons (.cst (.int 3)) .nil))))) .nil)))) .nil)))) (.seq (.asg (.nm 4) (.cst (.int 1))) (.seq (.for_ (.nm 3) .range (.cons (.call "_law_draw" (.cons (.var 1) (.cons (.cst (.int 200)) .nil))) .nil) (.asg (.nm 4) (.bin .Mult (.cst (.int 2)) (.var 4)))) (.seq (.for_ (.nm 5) .plain (.cons (.bin .Add (.var 2) (.lst (.cons (.var 4) (.cons (.blt .max (.cons (.cst (.int 1)) (.cons (.bin .Sub (.var 4) (.cst (.int 1))) .nil))) (.cons (.bin .Add (.var 4) (.cst (.int 1))) .nil))))) .nil) (.ite (.not_ (.call "_law_right" (.cons (.fz (.var 5)) .nil))) (.ret (.cst (.bl false))) .skip)) (.seq (.asg (.nm 5) (.bin .Add (.cst (.int 1)) (.call "_law_draw" (.cons (.var 1) (.cons (.cst (.int 40)) .nil))))) (.ret (.cmp .Eq (.comp [6] (.nm 6) .range (.cons (.var 5) .nil) (.cmp .IsNot (.call "_law_led" (.cons (.fz (.var 6)) (.cons (.bin .Sub (.bin .Sub (.var 5) (.cst (.int 1))) (.var 6)) .nil))) (.cst .non)) (.var 6)) (.lst (.cons (.idx (.call "full" (.cons (.fz (.var 5)) .nil)) (.cst (.int 0))) .nil))))))))))
def tabL : List (Str × Fn) := ("full", ⟨1, 5, B_full⟩) :: ("moves_of", ⟨1, 2, B_moves_of⟩) :: ("twos", ⟨1, 2, B_twos⟩) :: ("slack", ⟨1, 1, B_slack⟩) :: ("_law_hand", ⟨1, 1, handB⟩) :: ("_law_step", ⟨1, 1, stepB⟩) :: ("_law_take", ⟨1, 2, takeB⟩) :: ("_law_draw", ⟨2, 5, drawB⟩) :: ("_law_most", ⟨3, 4, B_l_most⟩) :: ("_law_behind", ⟨3, 3, B_l_behind⟩) :: ("_law_is_alone", ⟨3, 4, B_l_is_alone⟩) :: ("_law_figures", ⟨1, 2, B_l_figures⟩) :: ("_law_is_full", ⟨2, 3, b__law_is_full⟩) :: ("_law_led", ⟨2, 4, b__law_led⟩) :: ("_law_right", ⟨1, 6, b__law_right⟩) :: ("law", ⟨1, 7, b_law⟩) :: []
def tab : Tab := fun f => tabL.lookup f
def gs : Gs := ⟨["full", "moves_of", "twos", "slack", "_law_hand", "_law_step", "_law_take", "_law_draw", "_law_most", "_law_behind", "_law_is_alone", "_law_figures", "_law_is_full", "_law_led", "_law_right", "law"], [], [(["_law_found", "_law_v", "_law_half"], ["_law_half"]), (["_law_v", "_law_found", "_law_moves", "_law_here", "_law_move", "_law_power"], ["_law_found", "_law_moves"])], [(["v", "figures", "left", "right", "number"], ["figures"]), (["v", "moves"], ["moves"]), (["things", "found"], ["found"]), (["_law_hand_here"], ["_law_hand_here"]), (["_law_hand_here", "_law_cell"], ["_law_hand_here"]), (["_law_hand_here", "_law_many", "_law_got", "_law_value", "_law_size"], ["_law_hand_here"]), (["_law_script", "_law_hand_here", "_law_some", "_law_k", "_law_power", "_law_v", "_law_left"], ["_law_hand_here", "_law_some"])], []⟩
theorem t_full : tab "full" = some ⟨1, 5, B_full⟩ := by kernel_rfl
theorem c_full : compD ["v", "figures", "left", "right", "number"] ["v"] gs (topS 1) = some ⟨1, 5, B_full⟩ := by kernel_rfl
theorem s_full : L2.FnScope ["v", "figures", "left", "right", "number"] ["v"] (L2.defScope (topS 1)) := ⟨rfl, rfl, rfl, by decide +kernel, rfl, by decide +kernel, by decide +kernel⟩
theorem t_moves_of : tab "moves_of" = some ⟨1, 2, B_moves_of⟩ := by kernel_rfl
theorem c_moves_of : compD ["v", "moves"] ["v"] gs (topS 2) = some ⟨1, 2, B_moves_of⟩ := by kernel_rfl
theorem s_moves_of : L2.FnScope ["v", "moves"] ["v"] (L2.defScope (topS 2)) := ⟨rfl, rfl, rfl, by decide +kernel, rfl, by decide +kernel, by decide +kernel⟩
theorem t_twos : tab "twos" = some ⟨1, 2, B_twos⟩ := by kernel_rfl
theorem c_twos : compD ["things", "found"] ["things"] gs (topS 3) = some ⟨1, 2, B_twos⟩ := by kernel_rfl
theorem s_twos : L2.FnScope ["things", "found"] ["things"] (L2.defScope (topS 3)) := ⟨rfl, rfl, rfl, by decide +kernel, rfl, by decide +kernel, by decide +kernel⟩
theorem t_slack : tab "slack" = some ⟨1, 1, B_slack⟩ := by kernel_rfl
theorem c_slack : compD ["many"] ["many"] gs (topS 4) = some ⟨1, 1, B_slack⟩ := by kernel_rfl
theorem s_slack : L2.FnScope ["many"] ["many"] (L2.defScope (topS 4)) := ⟨rfl, rfl, rfl, by decide +kernel, rfl, by decide +kernel, by decide +kernel⟩
theorem t__law_hand : tab "_law_hand" = some ⟨1, 1, handB⟩ := by kernel_rfl
theorem c__law_hand : compD ["_law_script"] ["_law_script"] gs (topS 6) = some ⟨1, 1, handB⟩ := by kernel_rfl
theorem s__law_hand : L2.FnScope ["_law_script"] ["_law_script"] (L2.defScope (topS 6)) := ⟨rfl, rfl, rfl, by decide +kernel, rfl, by decide +kernel, by decide +kernel⟩
theorem t__law_step : tab "_law_step" = some ⟨1, 1, stepB⟩ := by kernel_rfl
theorem c__law_step : compD ["_law_hand_here"] ["_law_hand_here"] gs (topS 7) = some ⟨1, 1, stepB⟩ := by kernel_rfl
theorem s__law_step : L2.FnScope ["_law_hand_here"] ["_law_hand_here"] (L2.defScope (topS 7)) := ⟨rfl, rfl, rfl, by decide +kernel, rfl, by decide +kernel, by decide +kernel⟩
theorem t__law_take : tab "_law_take" = some ⟨1, 2, takeB⟩ := by kernel_rfl
theorem c__law_take : compD ["_law_hand_here", "_law_cell"] ["_law_hand_here"] gs (topS 8) = some ⟨1, 2, takeB⟩ := by kernel_rfl
theorem s__law_take : L2.FnScope ["_law_hand_here", "_law_cell"] ["_law_hand_here"] (L2.defScope (topS 8)) := ⟨rfl, rfl, rfl, by decide +kernel, rfl, by decide +kernel, by decide +kernel⟩
theorem t__law_draw : tab "_law_draw" = some ⟨2, 5, drawB⟩ := by kernel_rfl
theorem c__law_draw : compD ["_law_hand_here", "_law_many", "_law_got", "_law_value", "_law_size"] ["_law_hand_here", "_law_many"] gs (topS 9) = some ⟨2, 5, drawB⟩ := by kernel_rfl
theorem s__law_draw : L2.FnScope ["_law_hand_here", "_law_many", "_law_got", "_law_value", "_law_size"] ["_law_hand_here", "_law_many"] (L2.defScope (topS 9)) := ⟨rfl, rfl, rfl, by decide +kernel, rfl, by decide +kernel, by decide +kernel⟩
theorem t__law_most : tab "_law_most" = some ⟨3, 4, B_l_most⟩ := by kernel_rfl
theorem c__law_most : compD ["_law_left", "_law_right_here", "_law_side", "_law_things"] ["_law_left", "_law_right_here", "_law_side"] gs (topS 10) = some ⟨3, 4, B_l_most⟩ := by kernel_rfl
theorem s__law_most : L2.FnScope ["_law_left", "_law_right_here", "_law_side", "_law_things"] ["_law_left", "_law_right_here", "_law_side"] (L2.defScope (topS 10)) := ⟨rfl, rfl, rfl, by decide +kernel, rfl, by decide +kernel, by decide +kernel⟩
theorem t__law_behind : tab "_law_behind" = some ⟨3, 3, B_l_behind⟩ := by kernel_rfl
theorem c__law_behind : compD ["_law_left", "_law_right_here", "_law_move"] ["_law_left", "_law_right_here", "_law_move"] gs (topS 11) = some ⟨3, 3, B_l_behind⟩ := by kernel_rfl
theorem s__law_behind : L2.FnScope ["_law_left", "_law_right_here", "_law_move"] ["_law_left", "_law_right_here", "_law_move"] (L2.defScope (topS 11)) := ⟨rfl, rfl, rfl, by decide +kernel, rfl, by decide +kernel, by decide +kernel⟩
theorem t__law_is_alone : tab "_law_is_alone" = some ⟨3, 4, B_l_is_alone⟩ := by kernel_rfl
theorem c__law_is_alone : compD ["_law_left", "_law_right_here", "_law_moves", "_law_move"] ["_law_left", "_law_right_here", "_law_moves"] gs (topS 12) = some ⟨3, 4, B_l_is_alone⟩ := by kernel_rfl
theorem s__law_is_alone : L2.FnScope ["_law_left", "_law_right_here", "_law_moves", "_law_move"] ["_law_left", "_law_right_here", "_law_moves"] (L2.defScope (topS 12)) := ⟨rfl, rfl, rfl, by decide +kernel, rfl, by decide +kernel, by decide +kernel⟩
theorem t__law_figures : tab "_law_figures" = some ⟨1, 2, B_l_figures⟩ := by kernel_rfl
theorem c__law_figures : compD ["_law_things", "_law_many"] ["_law_things"] gs (topS 13) = some ⟨1, 2, B_l_figures⟩ := by kernel_rfl
theorem s__law_figures : L2.FnScope ["_law_things", "_law_many"] ["_law_things"] (L2.defScope (topS 13)) := ⟨rfl, rfl, rfl, by decide +kernel, rfl, by decide +kernel, by decide +kernel⟩
theorem t__law_is_full : tab "_law_is_full" = some ⟨2, 3, b__law_is_full⟩ := by kernel_rfl
theorem c__law_is_full : compD ["_law_found", "_law_v", "_law_half"] ["_law_found", "_law_v"] gs (topS 14) = some ⟨2, 3, b__law_is_full⟩ := by kernel_rfl
theorem s__law_is_full : L2.FnScope ["_law_found", "_law_v", "_law_half"] ["_law_found", "_law_v"] (L2.defScope (topS 14)) := ⟨rfl, rfl, rfl, by decide +kernel, rfl, by decide +kernel, by decide +kernel⟩
theorem t__law_led : tab "_law_led" = some ⟨2, 4, b__law_led⟩ := by kernel_rfl
theorem c__law_led : compD ["_law_left", "_law_right_here", "_law_things", "_law_move"] ["_law_left", "_law_right_here"] gs (topS 15) = some ⟨2, 4, b__law_led⟩ := by kernel_rfl
theorem s__law_led : L2.FnScope ["_law_left", "_law_right_here", "_law_things", "_law_move"] ["_law_left", "_law_right_here"] (L2.defScope (topS 15)) := ⟨rfl, rfl, rfl, by decide +kernel, rfl, by decide +kernel, by decide +kernel⟩
theorem t__law_right : tab "_law_right" = some ⟨1, 6, b__law_right⟩ := by kernel_rfl
theorem c__law_right : compD ["_law_v", "_law_found", "_law_moves", "_law_here", "_law_move", "_law_power"] ["_law_v"] gs (topS 16) = some ⟨1, 6, b__law_right⟩ := by kernel_rfl
theorem s__law_right : L2.FnScope ["_law_v", "_law_found", "_law_moves", "_law_here", "_law_move", "_law_power"] ["_law_v"] (L2.defScope (topS 16)) := ⟨rfl, rfl, rfl, by decide +kernel, rfl, by decide +kernel, by decide +kernel⟩
theorem t_law : tab "law" = some ⟨1, 7, b_law⟩ := by kernel_rfl
theorem c_law : compD ["_law_script", "_law_hand_here", "_law_some", "_law_k", "_law_power", "_law_v", "_law_left"] ["_law_script"] gs (topS 17) = some ⟨1, 7, b_law⟩ := by kernel_rfl
theorem s_law : L2.FnScope ["_law_script", "_law_hand_here", "_law_some", "_law_k", "_law_power", "_law_v", "_law_left"] ["_law_script"] (L2.defScope (topS 17)) := ⟨rfl, rfl, rfl, by decide +kernel, rfl, by decide +kernel, by decide +kernel⟩
theorem drawT : DrawT tab := ⟨t__law_hand, t__law_step, t__law_take, t__law_draw⟩
/-! ### the law's own reading of a full strip -/
def pqD (v : Nat) : D := .tup [.int (pV v : Int), .int ((v : Int) - 1 - (pV v : Int))]
theorem pair_ok (a b : Int) : (D.tup [.int a, .int b]).ok := ⟨rfl, rfl⟩
theorem mvD_ok (m : Mv) : (mvD m).ok := by
  obtain ⟨b, n⟩ := m
  refine ok_tup (n := 1) (by decide) fun x hx => ?_
  have hx : x = sdD b ∨ x = .int n := by simpa using hx
  rcases hx with rfl | rfl
  · cases b <;> exact ⟨rfl, by decide +kernel, by decide +kernel⟩
  · exact ⟨rfl, rfl, by simp [D.py, PyData.depth]⟩
def SpIsFull (C : Ct) : Prop := ∀ (v : Nat) Q, 1 ≤ v → v < 2 ^ 1000 → (∀ f0 f1, Q (.d (.bl true)) [f0, f1]) → C "_law_is_full" [.d (pqD v), .d (.int (v : Int))] Q
theorem is_full_ok : ∀ k, 2 ≤ k → SpIsFull (call tab k) := lvl 2 fun j v Q h1 hv hq => by
  have fu := full_ok t_full (j + 1) (by omega)
  refine run_call t__law_is_full rfl ?_
  generalize call tab (j + 1) = C at fu ⊢
  have pv := p_lt v h1
  refine ⟨_, rfl, _, rfl, ?_⟩
  refine ⟨_, rfl, _, rfl, ?_⟩
  refine if_d (fun z => absurd (show (v : Int) - 1 - (pV v : Int) < 0 from z) (by omega)) fun _ => ?_
  refine ⟨_, rfl, _, rfl, ?_⟩
  refine if_nd (fun z => absurd (show (pV v : Int) + ((v : Int) - 1 - (pV v : Int)) = (v : Int) - 1 by omega) z) fun _ => ?_
  show rS _ _ _ _
  refine if_d (fun z => ?_) fun z => ?_
  · have z : (v : Int) = 1 := z
    have z : v = 1 := by omega
    subst z
    rw [show pqD 1 = .tup [.int 0, .int 0] by unfold pqD; rw [p_1 (Nat.le_refl _)]; rfl]
    refine ⟨Nat.le_of_ble_eq_true rfl, pair_ok _ _, pair_ok _ _, ?_⟩
    exact hq _ _
  · have z : ¬ (v : Int) = 1 := z
    have p2 := p_2 (v := v) (by omega)
    have pl := p_lt (v / 2) (by omega)
    refine ⟨⟨by decide, by decide⟩, ?_⟩
    have fu' : ∀ (z : Int) Q, z = ((v / 2 : Nat) : Int) → (∀ f, Q (.d (pqD (v / 2))) [f]) → C "full" [.d (.int z)] Q := by
      rintro z Q rfl h
      exact fu (v / 2) Q (by omega) (by omega) h
    refine fu' _ _ (nat_half v) fun f => ?_
    refine ⟨by decide, ?_⟩
    have fin : ∀ (X Y : D) f0 f1, X.ok → X = Y → Q (.d (.bl (PyData.eqv X.py Y.py))) [f0, f1] := by
      rintro X Y f0 f1 h rfl
      rw [eqv_self h]
      exact hq _ _
    refine if_d (fun o => ?_) fun o => ?_
    · have o : (v : Int) % 2 = 1 := o
      rw [if_pos (by omega)] at p2
      refine ⟨_, rfl, ⟨by decide, by decide⟩, _, rfl, Nat.le_of_ble_eq_true rfl, pair_ok _ _, pair_ok _ _, ?_⟩
      refine fin (pqD v) (.tup [.int ((pV (v / 2) : Int) + (v : Int) / 2 + 1), .int (((v / 2 : Nat) : Int) - 1 - (pV (v / 2) : Int))]) _ _ (pair_ok _ _) ?_
      unfold pqD
      rw [show (pV v : Int) = (pV (v / 2) : Int) + (v : Int) / 2 + 1 by omega, show (v : Int) - 1 - ((pV (v / 2) : Int) + (v : Int) / 2 + 1) = ((v / 2 : Nat) : Int) - 1 - (pV (v / 2) : Int) by omega]
    · have o : ¬ (v : Int) % 2 = 1 := o
      rw [if_neg (by omega)] at p2
      refine ⟨_, rfl, _, rfl, ⟨by decide, by decide⟩, Nat.le_of_ble_eq_true rfl, pair_ok _ _, pair_ok _ _, ?_⟩
      refine fin (pqD v) (.tup [.int (pV (v / 2) : Int), .int (((v / 2 : Nat) : Int) - 1 - (pV (v / 2) : Int) + (v : Int) / 2)]) _ _ (pair_ok _ _) ?_
      unfold pqD
      rw [show (pV v : Int) = (pV (v / 2) : Int) by omega, show (v : Int) - 1 - (pV (v / 2) : Int) = ((v / 2 : Nat) : Int) - 1 - (pV (v / 2) : Int) + (v : Int) / 2 by omega]
def SpLedF (C : Ct) : Prop := ∀ (l r : Int) (t : Nat) Q, l + r + 1 = (t : Int) → 0 ≤ l → 0 ≤ r → (∀ f0 f1, l = (pV t : Int) → Q (.d (.tup [.int 0, .int 0])) [f0, f1]) → (∀ f0 f1, l ≠ (pV t : Int) → Q (.d .non) [f0, f1]) → C "_law_led" [.d (.int l), .d (.int r)] Q
theorem ledF_ok : ∀ k, 2 ≤ k → SpLedF (call tab k) := lvl 2 fun j l r t Q et l0 r0 hy hn => by
  have mo := most_ok t__law_most (j + 1) (by omega)
  have be := behind_ok t__law_behind (j + 1) (by omega)
  refine run_call t__law_led rfl ?_
  generalize call tab (j + 1) = C at mo be ⊢
  refine ⟨fun m s => ∃ (l1 r1 : Int) (u : Nat) (o2 o3 : Option O), m = u ∧ fr o2 ∧ fr o3 ∧ l1 + r1 + 1 = (u : Int) ∧ 0 ≤ l1 ∧ 0 ≤ r1 ∧ (l = (pV t : Int) ↔ l1 = (pV u : Int)) ∧ s = [some (.d (.int l1)), some (.d (.int r1)), o2, o3], ⟨_, l, r, t, none, none, rfl, fr.n, fr.n, et, l0, r0, Iff.rfl, rfl⟩, ?_⟩
  rintro m s ⟨l1, r1, u, o2, o3, rfl, f2, f3, eu, l10, r10, hi, rfl⟩
  refine if_d (fun h => ?_) fun h => ?_
  · have h : 0 < l1 + r1 := h
    have p2 := p_2 (v := m) (by omega)
    have pl := p_lt (m / 2) (by omega)
    show putK _ _ _ _
    refine putK_of rfl f2 ?_
    refine ⟨⟨by decide, by decide⟩, Nat.le_of_ble_eq_true rfl, ?_⟩
    show putK _ _ _ _
    refine putK_of rfl f3 ?_
    refine ⟨by decide, ?_⟩
    refine if_d (fun o => ?_) fun o => ?_
    · have o : (l1 + r1 + 1) % 2 = 1 := o
      rw [if_pos (by omega)] at p2
      refine ⟨⟨by decide, by decide⟩, Nat.le_of_ble_eq_true rfl, ?_⟩
      refine ⟨_, rfl, _, rfl, ?_⟩
      refine mo l1 r1 true _ ?_
      have em : mostN l1 r1 true = if (l1 + r1 + 1) / 2 + 1 < l1 then (l1 + r1 + 1) / 2 + 1 else l1 := by
        unfold mostN
        rw [if_pos rfl]
        split <;> split <;> omega
      refine if_d (fun c => ?_) fun c => ?_
      · have c : mostN l1 r1 true < (l1 + r1 + 1) / 2 + 1 := c
        rw [em] at c
        refine hn _ _ fun z => ?_
        have := hi.mp z
        split at c <;> omega
      · have c : ¬ mostN l1 r1 true < (l1 + r1 + 1) / 2 + 1 := c
        rw [em] at c
        have c : (l1 + r1 + 1) / 2 + 1 ≤ l1 := by split at c <;> omega
        refine be l1 r1 (true, (l1 + r1 + 1) / 2 + 1) _ ?_
        refine ⟨m / 2, by omega, l1 - ((l1 + r1 + 1) / 2 + 1), r1, m / 2, _, _, rfl, fr.x, fr.x, by omega, by omega, r10, ?_, rfl⟩
        rw [hi]
        omega
    · have o : ¬ (l1 + r1 + 1) % 2 = 1 := o
      rw [if_neg (by omega)] at p2
      refine ⟨_, rfl, _, rfl, ?_⟩
      refine mo l1 r1 false _ ?_
      have em : mostN l1 r1 false = if (l1 + r1 + 1) / 2 < r1 then (l1 + r1 + 1) / 2 else r1 := by
        unfold mostN
        rw [if_neg (by decide)]
      refine if_d (fun c => ?_) fun c => ?_
      · have c : mostN l1 r1 false < (l1 + r1 + 1) / 2 := c
        rw [em] at c
        refine hn _ _ fun z => ?_
        have := hi.mp z
        split at c <;> omega
      · have c : ¬ mostN l1 r1 false < (l1 + r1 + 1) / 2 := c
        rw [em] at c
        have c : (l1 + r1 + 1) / 2 ≤ r1 := by split at c <;> omega
        refine be l1 r1 (false, (l1 + r1 + 1) / 2) _ ?_
        refine ⟨m / 2, by omega, l1, r1 - (l1 + r1 + 1) / 2, m / 2, _, _, rfl, fr.x, fr.x, by omega, l10, by omega, ?_, rfl⟩
        rw [hi]
        omega
  · have h : ¬ 0 < l1 + r1 := h
    have e1 : l1 = 0 := by omega
    have e2 : r1 = 0 := by omega
    subst e1 e2
    refine ⟨Nat.le_of_ble_eq_true rfl, ?_⟩
    refine hy _ _ (hi.mpr ?_)
    rw [p_1 (by omega)]
    rfl
def SpSlackL : Prop := True
theorem pow_n (n : Nat) : (2 : Int) ^ (n + 1) = 2 * 2 ^ n := by rw [Int.pow_succ, Int.mul_comm]
def SpRight (C : Ct) : Prop := ∀ (v : Nat) Q, 1 ≤ v → v < 2 ^ 1000 → (∀ f, Q (.d (.bl true)) [f]) → C "_law_right" [.d (.int (v : Int))] Q
theorem right_ok : ∀ k, 5 ≤ k → SpRight (call tab k) := lvl 5 fun j v Q h1 hv hq => by
  have fu := full_ok t_full (j + 4) (by omega)
  have mv := moves_of_ok t_moves_of (j + 4) (by omega)
  have isf := is_full_ok (j + 4) (by omega)
  have fi := figL_ok t__law_figures (j + 4) (by omega)
  have al := aloneL_ok t__law_most t__law_behind t__law_is_alone (j + 4) (by omega)
  have sl := slack_ok t_twos t_slack (j + 4) (by omega)
  refine run_call t__law_right rfl ?_
  generalize call tab (j + 4) = C at fu mv isf fi al sl ⊢
  have pv := p_lt v h1
  have fl := fig_le 1000 v hv
  refine fu v _ h1 hv fun f => ?_
  refine mv v _ hv fun f => ?_
  refine isf v _ h1 hv fun f0 f1 => ?_
  refine fi v _ fun f => ?_
  have n1 : ((((movV v).map mvD).length : Nat) : Int) = ((figV v : Nat) : Int) := by rw [List.length_map, mov_len]
  refine if_nd (fun z => absurd n1 z) fun _ => ?_
  refine ⟨_, rfl, _, rfl, ?_⟩
  have w := mov_walks v h1
  rw [show ((v - 1 - pV v : Nat) : Int) = (v : Int) - 1 - (pV v : Int) by omega] at w
  refine al _ _ _ _ w fun f0 f1 f2 => ?_
  show forL _ _ _ _ _ _
  refine forL_inv _ (fun i s => ∃ (u : Nat) (o4 : Option O), fr o4 ∧ (movV v).drop i = movV u ∧ s = [some (.d (.int (v : Int))), some (.d (pqD v)), some (.d (.lst ((movV v).map mvD))), some (.d (.int (u : Int))), o4, none]) (fun i x s N hN hx hs => ?_) (fun s hs => ?_) _ ⟨v, none, fr.n, rfl, rfl⟩
  · obtain ⟨u, o4, f4, e, rfl⟩ := hs
    obtain ⟨m, em, rfl⟩ : ∃ m, (movV v)[i]? = some m ∧ x = mvD m := by
      rw [List.getElem?_map] at hx
      obtain ⟨m, e, h⟩ := Option.map_eq_some_iff.mp hx
      exact ⟨m, e, h.symm⟩
    have hi := (List.getElem?_eq_some_iff.mp em).1
    have he := (List.getElem?_eq_some_iff.mp em).2
    rw [List.drop_eq_getElem_cons hi, he] at e
    have u1 : ¬ u ≤ 1 := fun z => by rw [mov_1 z] at e; cases e
    rw [mov_2 u1] at e
    obtain ⟨e1, e2⟩ := List.cons.inj e
    refine ⟨_, put_fr rfl f4, ?_⟩
    refine ⟨⟨by decide, by decide⟩, Nat.le_of_ble_eq_true rfl, ⟨by decide, by decide⟩, Nat.le_of_ble_eq_true rfl, Nat.le_of_ble_eq_true rfl, by decide, ?_⟩
    have ix : L2.atI [D.tup [.str "R", .int ((u : Int) / 2)], D.tup [.str "L", .int ((u : Int) / 2 + 1)]] ((u : Int) % 2) = some (mvD m) := by
      by_cases o : u % 2 = 1
      · rw [if_pos o] at e1
        subst e1
        rw [show (u : Int) % 2 = ((1 : Nat) : Int) by omega, show ((u / 2 + 1 : Nat) : Int) = (u : Int) / 2 + 1 by omega]
        rfl
      · rw [if_neg o] at e1
        subst e1
        rw [show (u : Int) % 2 = ((0 : Nat) : Int) by omega, show ((u / 2 : Nat) : Int) = (u : Int) / 2 by omega]
        rfl
    refine ⟨_, ix, mvD_ok m, mvD_ok m, ?_⟩
    show if (!PyData.eqv (mvD m).py (mvD m).py) = true then _ else _
    rw [eqv_self (mvD_ok m)]
    refine ⟨⟨by decide, by decide⟩, ?_⟩
    refine hN _ ⟨u / 2, some (.d (mvD m)), fr.x, e2, ?_⟩
    rw [nat_half]
  · obtain ⟨u, o4, f4, e, rfl⟩ := hs
    refine ⟨fun m s => ∃ i, m = figV v + 1 - i ∧ i ≤ figV v + 1 ∧ s = [some (.d (.int (v : Int))), some (.d (pqD v)), some (.d (.lst ((movV v).map mvD))), some (.d (.int (u : Int))), o4, some (.d (.int ((2 : Int) ^ i)))], ⟨_, 0, rfl, Nat.zero_le _, rfl⟩, ?_⟩
    rintro m s ⟨i, rfl, hi, rfl⟩
    obtain ⟨b1, b2⟩ := fig_bounds v h1
    refine if_d (fun c => ?_) fun c => ?_
    · have c : (2 : Int) ^ i ≤ (v : Int) := c
      have hi2 : i < figV v + 1 := by
        refine Classical.byContradiction fun z => ?_
        have : i = figV v + 1 := by omega
        subst this
        rw [← pow_cast] at c
        omega
      refine ⟨.inl ⟨by decide, by decide⟩, ?_⟩
      refine ⟨figV v + 1 - (i + 1), by omega, i + 1, rfl, by omega, ?_⟩
      rw [pow_n]
    · have c : ¬ (2 : Int) ^ i ≤ (v : Int) := c
      have : i = figV v + 1 := by
        refine Classical.byContradiction fun z => ?_
        have : 2 ^ i ≤ 2 ^ figV v := Nat.pow_le_pow_right (by decide) (by omega)
        rw [← pow_cast] at c
        omega
      subst this
      refine sl v _ h1 hv fun f => ?_
      have n2 : slackN v = (2 : Int) ^ (figV v + 1) - (v : Int) := by unfold slackN; rw [pow_n]
      refine if_d (fun _ => ?_) fun z => absurd n2 z
      refine sl v _ h1 hv fun f => ?_
      exact hq _
theorem filt_one (p : Nat) : ∀ i : Nat, (List.range i).filter (fun k => decide (k = p)) = if p < i then [p] else []
  | 0 => rfl
  | i + 1 => by
    rw [List.range_succ, List.filter_append, filt_one p i]
    by_cases h : p = i
    · subst h
      rw [if_neg (Nat.lt_irrefl _), if_pos (Nat.lt_succ_self _)]
      simp
    · have : List.filter (fun k => decide (k = p)) [i] = [] := by simp; omega
      rw [this, List.append_nil]
      by_cases h2 : p < i
      · rw [if_pos h2, if_pos (by omega)]
      · rw [if_neg h2, if_neg (by omega)]
theorem int_ok (n : Int) : (D.lst [.int n]).ok := ⟨rfl, rfl⟩
theorem spec_law : ∀ ns : List Int, ns.length ≤ 63 → ∀ Q : O → List (Option O) → Prop, (∀ fin, Q (.d (.bl true)) fin) → call tab 12 "law" [.d (.frz (ns.map .int))] Q := by
  intro sc _ Q hq
  have dr := draw_ok drawT (k := 11) (by decide)
  have fu := full_ok t_full 11 (by decide)
  have le := ledF_ok 11 (by decide)
  have ri := right_ok 11 (by decide)
  have ha := hand_ok drawT (k := 11) (by decide)
  refine run_call t_law rfl ?_
  generalize call tab 11 = C at dr fu le ri ha ⊢
  refine ha _ _ fun h hh => ?_
  refine ⟨⟨by decide, by decide, by decide, by decide, by decide⟩, ?_⟩
  refine ⟨⟨by decide, by decide⟩, ?_⟩
  show forL _ _ _ _ _ _
  have e40 : rangeD 1 ((41 : Int) - 1).toNat = ((List.range 40).map (1 + ·)).map nD := by
    unfold rangeD
    rw [List.map_map]
    refine List.map_congr_left fun k _ => ?_
    show D.int (1 + (k : Int)) = D.int ((1 + k : Nat) : Int)
    rw [show ((1 + k : Nat) : Int) = 1 + (k : Int) by omega]
  rw [e40]
  refine forL_inv _ (fun i s => ∃ h o3, ∃ vs : List Nat, Hand h ∧ fr o3 ∧ (∀ v ∈ vs, 1 ≤ v ∧ v < 2 ^ 1000) ∧ vs.length ≤ 40 + i ∧ s = [some (.d (.frz (sc.map .int))), some (.l false h), some (.l false (vs.map nD)), o3, none, none, none]) (fun i x s N hN hx hs => ?_) (fun s hs => ?_) _ ⟨h, none, _, hh, fr.n, ?_, by rw [List.length_map, List.length_range]; exact Nat.le_refl _, rfl⟩
  · obtain ⟨h, o3, vs, hh, f3, hv, vl, rfl⟩ := hs
    obtain ⟨hi, rfl⟩ := rangeD_at hx
    have hi : i < 6 := hi
    refine ⟨_, put_fr rfl f3, ?_⟩
    refine ⟨⟨by decide, by decide, by decide⟩, ⟨by decide, by decide, by decide⟩, .inl ⟨by decide, by decide⟩, Nat.le_of_ble_eq_true rfl, ?_⟩
    refine dr _ _ _ hh (by decide) (by decide) fun x h1 hh1 x0 x1 => ?_
    obtain ⟨z, ez, z0, z1⟩ : ∃ z, L2.atI [D.int 300, D.int (10 ^ (9 : Int).toNat), D.int (4 * 10 ^ (60 : Int).toNat)] x = some (.int z) ∧ 0 < z ∧ z ≤ 10 ^ 70 := by
      have hx : x = 0 ∨ x = 1 ∨ x = 2 := by omega
      rcases hx with rfl | rfl | rfl
      · exact ⟨_, rfl, by decide, by decide⟩
      · exact ⟨_, rfl, by decide, by decide⟩
      · exact ⟨_, rfl, by decide, by decide⟩
    refine ⟨_, ez, ?_⟩
    refine dr _ _ _ hh1 z0 (small z0 z1) fun y h2 hh2 y0 y1 => ?_
    refine ⟨by rw [List.length_map]; show _ < 16777216; omega, ?_⟩
    have k70 : ((10 : Int)) ^ 70 < ((2 ^ 1000 - 1 : Nat) : Int) := by decide +kernel
    obtain ⟨u, rfl⟩ := Int.eq_ofNat_of_zero_le y0
    refine hN _ ⟨h2, some (.d (.int (0 + (i : Int)))), vs ++ [1 + u], hh2, fr.x, fun v hv' => ?_, by simp; omega, ?_⟩
    · rcases List.mem_append.mp hv' with z | z
      · exact hv v z
      · rw [List.mem_singleton.mp z]
        have : (u : Int) < ((2 ^ 1000 - 1 : Nat) : Int) := by omega
        omega
    · rw [List.map_append, List.map_singleton]
      show _ = [_, _, some (O.l false (_ ++ [D.int ((1 + u : Nat) : Int)])), _, _, _, _]
      rw [show ((1 + u : Nat) : Int) = 1 + (u : Int) by omega]
  · obtain ⟨h, o3, vs, hh, f3, hv, vl, rfl⟩ := hs
    rw [rangeD_len] at vl
    have vl : vs.length ≤ 46 := vl
    refine dr _ _ _ hh (by decide) (by decide) fun n h1 hh1 n0 n1 => ?_
    refine ⟨⟨by omega, by omega⟩, ?_⟩
    show forL _ _ _ _ _ _
    refine forL_inv _ (fun i s => ∃ o3, fr o3 ∧ s = [some (.d (.frz (sc.map .int))), some (.l false h1), some (.l false (vs.map nD)), o3, some (.d (.int ((2 : Int) ^ i))), none, none]) (fun i x s N hN hx hs => ?_) (fun s hs => ?_) _ ⟨o3, f3, rfl⟩
    · obtain ⟨o3, f3, rfl⟩ := hs
      obtain ⟨hi, rfl⟩ := rangeD_at hx
      refine ⟨_, put_fr rfl f3, ?_⟩
      refine ⟨.inl ⟨by decide, by decide⟩, ?_⟩
      refine hN _ ⟨some (.d (.int (0 + (i : Int)))), fr.x, ?_⟩
      rw [pow_n]
    · obtain ⟨o3, f3, rfl⟩ := hs
      rw [rangeD_len]
      have hn : n.toNat ≤ 199 := by omega
      generalize n.toNat = m at hn ⊢
      have pb : 2 ^ m ≤ 2 ^ 199 := Nat.pow_le_pow_right (by decide) hn
      have p1 := Nat.pow_pos (n := m) (show 0 < 2 by decide)
      have k199 : 2 ^ 199 + 1 < 2 ^ 1000 := by decide +kernel
      rw [← pow_cast]
      generalize 2 ^ m = P at pb p1 ⊢
      refine ⟨Nat.le_of_ble_eq_true rfl, ?_, ?_⟩
      · rw [List.length_map]; show vs.length + 3 ≤ 16777216; omega
      have el : vs.map nD ++ [D.int (P : Int), D.int (if (P : Int) - 1 > 1 then (P : Int) - 1 else 1), D.int ((P : Int) + 1)] = (vs ++ [P, if P - 1 > 1 then P - 1 else 1, P + 1]).map nD := by
        rw [List.map_append]
        show _ = _ ++ [D.int (P : Int), D.int ((if P - 1 > 1 then P - 1 else 1 : Nat) : Int), D.int ((P + 1 : Nat) : Int)]
        have e1 : (((if P - 1 > 1 then P - 1 else 1 : Nat)) : Int) = if (P : Int) - 1 > 1 then (P : Int) - 1 else 1 := by split <;> split <;> omega
        have e2 : ((P + 1 : Nat) : Int) = (P : Int) + 1 := by omega
        rw [e1, e2]
      show forL _ _ _ _ _ _
      rw [el]
      have all : ∀ v ∈ vs ++ [P, if P - 1 > 1 then P - 1 else 1, P + 1], 1 ≤ v ∧ v < 2 ^ 1000 := by
        intro v hv'
        rcases List.mem_append.mp hv' with z | z
        · exact hv v z
        · have : v = P ∨ v = (if P - 1 > 1 then P - 1 else 1) ∨ v = P + 1 := by simpa using z
          rcases this with rfl | rfl | rfl
          · omega
          · split <;> omega
          · omega
      generalize vs ++ [P, if P - 1 > 1 then P - 1 else 1, P + 1] = ws at all
      refine forL_inv _ (fun i s => ∃ o5, fr o5 ∧ s = [some (.d (.frz (sc.map .int))), some (.l false h1), some (.l false (vs.map nD)), o3, some (.d (.int (P : Int))), o5, none]) (fun i x s N hN hx hs => ?_) (fun s hs => ?_) _ ⟨none, fr.n, rfl⟩
      · obtain ⟨o5, f5, rfl⟩ := hs
        obtain ⟨v, ev, rfl⟩ := mapD_at hx
        have a := all v (List.mem_of_getElem? ev)
        refine ⟨_, put_fr rfl f5, ?_⟩
        refine ri v _ a.1 a.2 fun f => ?_
        exact hN _ ⟨some (.d (nD v)), fr.x, rfl⟩
      · obtain ⟨o5, f5, rfl⟩ := hs
        refine dr _ _ _ hh1 (by decide) (by decide) fun u h2 hh2 u0 u1 => ?_
        obtain ⟨u, rfl⟩ := Int.eq_ofNat_of_zero_le u0
        show putK _ _ _ _
        refine putK_of rfl f5 ?_
        refine ⟨⟨by omega, by omega⟩, ?_⟩
        show compL _ _ _ _ _ _ _ _ _ _
        have pl := p_lt (1 + u) (by omega)
        refine compL_inv _ (fun i acc s => acc = ((List.range i).filter fun k => decide (k = pV (1 + u))).map nD ∧ s = [some (.d (.frz (sc.map .int))), some (.l false h2), some (.l false (vs.map nD)), o3, some (.d (.int (P : Int))), some (.d (.int (1 + (u : Int)))), none]) (fun i x acc s N hN hx hs => ?_) (fun acc s hs => ?_) _ ⟨rfl, rfl⟩
        · obtain ⟨rfl, rfl⟩ := hs
          obtain ⟨hi, rfl⟩ := rangeD_at hx
          have hi : i < 1 + u := by omega
          rw [Int.zero_add]
          refine ⟨_, rfl, ?_⟩
          refine le (i : Int) (1 + (u : Int) - 1 - (i : Int)) (1 + u) _ (by omega) (by omega) (by omega) (fun f0 f1 z => ?_) (fun f0 f1 z => ?_)
          · have z : i = pV (1 + u) := by omega
            refine ⟨_, _, rfl, ?_, hN _ _ ⟨?_, rfl⟩⟩
            · rw [List.length_map]
              refine Nat.lt_of_le_of_lt (List.length_filter_le _ _) ?_
              rw [List.length_range]; show i < 16777216; omega
            · rw [List.range_succ, List.filter_append, List.map_append]
              rw [show List.filter (fun k => decide (k = pV (1 + u))) [i] = [i] by simp [z]]
              rfl
          · have z : i ≠ pV (1 + u) := by omega
            refine hN _ _ ⟨?_, rfl⟩
            rw [List.range_succ, List.filter_append]
            rw [show List.filter (fun k => decide (k = pV (1 + u))) [i] = [] by simp [z], List.append_nil]
        · obtain ⟨rfl, rfl⟩ := hs
          rw [rangeD_len, show (1 + (u : Int)).toNat = 1 + u by omega, filt_one, if_pos (by omega)]
          have fu' : ∀ (z : Int) Q, z = ((1 + u : Nat) : Int) → (∀ f, Q (.d (pqD (1 + u))) [f]) → C "full" [.d (.int z)] Q := by
            rintro z Q rfl h
            exact fu (1 + u) Q (by omega) (by omega) h
          refine fu' _ _ (by omega) fun f => ?_
          refine ⟨_, rfl, Nat.le_of_ble_eq_true rfl, int_ok _, int_ok _, ?_⟩
          show Q (.d (.bl (PyData.eqv (D.lst [.int (pV (1 + u) : Int)]).py (D.lst [.int (pV (1 + u) : Int)]).py))) _
          rw [eqv_self (int_ok _)]
          exact hq _
  · intro v hv
    obtain ⟨k, hk, rfl⟩ := List.mem_map.mp hv
    have hk := List.mem_range.mp hk
    have : 41 < 2 ^ 1000 := by decide +kernel
    omega

theorem all_mk {P : Program} {w : World} {K : PySem.W.Frag} {h : Heap} {mg : Str → Option Value} {fa f0 f1 f2 f3 f4 f5 f6 f7 f8 f9 f10 f11 f12 f13 f14 f15 : Addr} (X : K.In h) (G : h.Ns mainGlobals mg) (hfa : mg "law" = some (.ref fa))
    {oc0 kV0 dc0 pm0 cd0 ct0 oc1 kV1 dc1 pm1 cd1 ct1 oc2 kV2 dc2 pm2 cd2 ct2 oc3 kV3 dc3 pm3 cd3 ct3 oc4 kV4 dc4 pm4 cd4 ct4 oc5 kV5 dc5 pm5 cd5 ct5 oc6 kV6 dc6 pm6 cd6 ct6 oc7 kV7 dc7 pm7 cd7 ct7 oc8 kV8 dc8 pm8 cd8 ct8 oc9 kV9 dc9 pm9 cd9 ct9 oc10 kV10 dc10 pm10 cd10 ct10 oc11 kV11 dc11 pm11 cd11 ct11 oc12 kV12 dc12 pm12 cd12 ct12 oc13 kV13 dc13 pm13 cd13 ct13 oc14 kV14 dc14 pm14 cd14 ct14 oc15 kV15 dc15 pm15 cd15 ct15 : Value} {od0 an0 od1 an1 od2 an2 od3 an3 od4 an4 od5 an5 od6 an6 od7 an7 od8 an8 od9 an9 od10 an10 od11 an11 od12 an12 od13 an13 od14 an14 od15 an15 : Option Addr} {sl0 sl1 sl2 sl3 sl4 sl5 sl6 sl7 sl8 sl9 sl10 sl11 sl12 sl13 sl14 sl15 : Array (Option Value)}
    (a0 : PySem.W.nsIn K mainGlobals "full" = some (some (.ref f0))) (l0 : K.lookup f0 = some ⟨oc0, od0, .func (PySem.W.fnOf "full" "full" (L2.defArgs (topS 1)) (L2.defBody (topS 1)) (L2.defScope (topS 1)) .none kV0 dc0 pm0 an0 cd0 ct0), sl0⟩) (c0 : PySem.W.codeIn K cd0 "full" = true) (k0 : PySem.W.keepIn K (.ref f0) = true)
    (a1 : PySem.W.nsIn K mainGlobals "moves_of" = some (some (.ref f1))) (l1 : K.lookup f1 = some ⟨oc1, od1, .func (PySem.W.fnOf "moves_of" "moves_of" (L2.defArgs (topS 2)) (L2.defBody (topS 2)) (L2.defScope (topS 2)) .none kV1 dc1 pm1 an1 cd1 ct1), sl1⟩) (c1 : PySem.W.codeIn K cd1 "moves_of" = true) (k1 : PySem.W.keepIn K (.ref f1) = true)
    (a2 : PySem.W.nsIn K mainGlobals "twos" = some (some (.ref f2))) (l2 : K.lookup f2 = some ⟨oc2, od2, .func (PySem.W.fnOf "twos" "twos" (L2.defArgs (topS 3)) (L2.defBody (topS 3)) (L2.defScope (topS 3)) .none kV2 dc2 pm2 an2 cd2 ct2), sl2⟩) (c2 : PySem.W.codeIn K cd2 "twos" = true) (k2 : PySem.W.keepIn K (.ref f2) = true)
    (a3 : PySem.W.nsIn K mainGlobals "slack" = some (some (.ref f3))) (l3 : K.lookup f3 = some ⟨oc3, od3, .func (PySem.W.fnOf "slack" "slack" (L2.defArgs (topS 4)) (L2.defBody (topS 4)) (L2.defScope (topS 4)) .none kV3 dc3 pm3 an3 cd3 ct3), sl3⟩) (c3 : PySem.W.codeIn K cd3 "slack" = true) (k3 : PySem.W.keepIn K (.ref f3) = true)
    (a4 : PySem.W.nsIn K mainGlobals "_law_hand" = some (some (.ref f4))) (l4 : K.lookup f4 = some ⟨oc4, od4, .func (PySem.W.fnOf "_law_hand" "_law_hand" (L2.defArgs (topS 6)) (L2.defBody (topS 6)) (L2.defScope (topS 6)) .none kV4 dc4 pm4 an4 cd4 ct4), sl4⟩) (c4 : PySem.W.codeIn K cd4 "_law_hand" = true) (k4 : PySem.W.keepIn K (.ref f4) = true)
    (a5 : PySem.W.nsIn K mainGlobals "_law_step" = some (some (.ref f5))) (l5 : K.lookup f5 = some ⟨oc5, od5, .func (PySem.W.fnOf "_law_step" "_law_step" (L2.defArgs (topS 7)) (L2.defBody (topS 7)) (L2.defScope (topS 7)) .none kV5 dc5 pm5 an5 cd5 ct5), sl5⟩) (c5 : PySem.W.codeIn K cd5 "_law_step" = true) (k5 : PySem.W.keepIn K (.ref f5) = true)
    (a6 : PySem.W.nsIn K mainGlobals "_law_take" = some (some (.ref f6))) (l6 : K.lookup f6 = some ⟨oc6, od6, .func (PySem.W.fnOf "_law_take" "_law_take" (L2.defArgs (topS 8)) (L2.defBody (topS 8)) (L2.defScope (topS 8)) .none kV6 dc6 pm6 an6 cd6 ct6), sl6⟩) (c6 : PySem.W.codeIn K cd6 "_law_take" = true) (k6 : PySem.W.keepIn K (.ref f6) = true)
    (a7 : PySem.W.nsIn K mainGlobals "_law_draw" = some (some (.ref f7))) (l7 : K.lookup f7 = some ⟨oc7, od7, .func (PySem.W.fnOf "_law_draw" "_law_draw" (L2.defArgs (topS 9)) (L2.defBody (topS 9)) (L2.defScope (topS 9)) .none kV7 dc7 pm7 an7 cd7 ct7), sl7⟩) (c7 : PySem.W.codeIn K cd7 "_law_draw" = true) (k7 : PySem.W.keepIn K (.ref f7) = true)
    (a8 : PySem.W.nsIn K mainGlobals "_law_most" = some (some (.ref f8))) (l8 : K.lookup f8 = some ⟨oc8, od8, .func (PySem.W.fnOf "_law_most" "_law_most" (L2.defArgs (topS 10)) (L2.defBody (topS 10)) (L2.defScope (topS 10)) .none kV8 dc8 pm8 an8 cd8 ct8), sl8⟩) (c8 : PySem.W.codeIn K cd8 "_law_most" = true) (k8 : PySem.W.keepIn K (.ref f8) = true)
    (a9 : PySem.W.nsIn K mainGlobals "_law_behind" = some (some (.ref f9))) (l9 : K.lookup f9 = some ⟨oc9, od9, .func (PySem.W.fnOf "_law_behind" "_law_behind" (L2.defArgs (topS 11)) (L2.defBody (topS 11)) (L2.defScope (topS 11)) .none kV9 dc9 pm9 an9 cd9 ct9), sl9⟩) (c9 : PySem.W.codeIn K cd9 "_law_behind" = true) (k9 : PySem.W.keepIn K (.ref f9) = true)
    (a10 : PySem.W.nsIn K mainGlobals "_law_is_alone" = some (some (.ref f10))) (l10 : K.lookup f10 = some ⟨oc10, od10, .func (PySem.W.fnOf "_law_is_alone" "_law_is_alone" (L2.defArgs (topS 12)) (L2.defBody (topS 12)) (L2.defScope (topS 12)) .none kV10 dc10 pm10 an10 cd10 ct10), sl10⟩) (c10 : PySem.W.codeIn K cd10 "_law_is_alone" = true) (k10 : PySem.W.keepIn K (.ref f10) = true)
    (a11 : PySem.W.nsIn K mainGlobals "_law_figures" = some (some (.ref f11))) (l11 : K.lookup f11 = some ⟨oc11, od11, .func (PySem.W.fnOf "_law_figures" "_law_figures" (L2.defArgs (topS 13)) (L2.defBody (topS 13)) (L2.defScope (topS 13)) .none kV11 dc11 pm11 an11 cd11 ct11), sl11⟩) (c11 : PySem.W.codeIn K cd11 "_law_figures" = true) (k11 : PySem.W.keepIn K (.ref f11) = true)
    (a12 : PySem.W.nsIn K mainGlobals "_law_is_full" = some (some (.ref f12))) (l12 : K.lookup f12 = some ⟨oc12, od12, .func (PySem.W.fnOf "_law_is_full" "_law_is_full" (L2.defArgs (topS 14)) (L2.defBody (topS 14)) (L2.defScope (topS 14)) .none kV12 dc12 pm12 an12 cd12 ct12), sl12⟩) (c12 : PySem.W.codeIn K cd12 "_law_is_full" = true) (k12 : PySem.W.keepIn K (.ref f12) = true)
    (a13 : PySem.W.nsIn K mainGlobals "_law_led" = some (some (.ref f13))) (l13 : K.lookup f13 = some ⟨oc13, od13, .func (PySem.W.fnOf "_law_led" "_law_led" (L2.defArgs (topS 15)) (L2.defBody (topS 15)) (L2.defScope (topS 15)) .none kV13 dc13 pm13 an13 cd13 ct13), sl13⟩) (c13 : PySem.W.codeIn K cd13 "_law_led" = true) (k13 : PySem.W.keepIn K (.ref f13) = true)
    (a14 : PySem.W.nsIn K mainGlobals "_law_right" = some (some (.ref f14))) (l14 : K.lookup f14 = some ⟨oc14, od14, .func (PySem.W.fnOf "_law_right" "_law_right" (L2.defArgs (topS 16)) (L2.defBody (topS 16)) (L2.defScope (topS 16)) .none kV14 dc14 pm14 an14 cd14 ct14), sl14⟩) (c14 : PySem.W.codeIn K cd14 "_law_right" = true) (k14 : PySem.W.keepIn K (.ref f14) = true)
    (a15 : PySem.W.nsIn K mainGlobals "law" = some (some (.ref f15))) (l15 : K.lookup f15 = some ⟨oc15, od15, .func (PySem.W.fnOf "law" "law" (L2.defArgs (topS 17)) (L2.defBody (topS 17)) (L2.defScope (topS 17)) .none kV15 dc15 pm15 an15 cd15 ct15), sl15⟩) (c15 : PySem.W.codeIn K cd15 "law" = true) (k15 : PySem.W.keepIn K (.ref f15) = true)
    (z0 : PySem.W.nsIn K mainGlobals "len" = some none)
    (z1 : PySem.W.nsIn K mainGlobals "abs" = some none)
    (z2 : PySem.W.nsIn K mainGlobals "max" = some none)
    (z3 : PySem.W.nsIn K mainGlobals "min" = some none)
    (z4 : PySem.W.nsIn K mainGlobals "sum" = some none)
    (z5 : PySem.W.nsIn K mainGlobals "all" = some none)
    (z6 : PySem.W.nsIn K mainGlobals "any" = some none)
    (z7 : PySem.W.nsIn K mainGlobals "int" = some none)
    (z8 : PySem.W.nsIn K mainGlobals "bool" = some none)
    (z9 : PySem.W.nsIn K mainGlobals "str" = some none)
    (z10 : PySem.W.nsIn K mainGlobals "list" = some none)
    (z11 : PySem.W.nsIn K mainGlobals "tuple" = some none)
    (z12 : PySem.W.nsIn K mainGlobals "dict" = some none)
    (z13 : PySem.W.nsIn K mainGlobals "sorted" = some none)
    (z14 : PySem.W.nsIn K mainGlobals "isinstance" = some none)
    (z15 : PySem.W.nsIn K mainGlobals "range" = some none)
    (z16 : PySem.W.nsIn K mainGlobals "enumerate" = some none)
    (z17 : PySem.W.nsIn K mainGlobals "zip" = some none)
    (z18 : PySem.W.nsIn K mainGlobals "reversed" = some none)
    (z19 : PySem.W.nsIn K mainGlobals "repr" = some none)
    : ∃ fd : FuncData, (∀ (s : Shared) (v : Value), BindsTo s fd ⟨[v], []⟩ [("_law_script", v)]) ∧ ∀ base : Heap, K.In base → base.Ns mainGlobals mg → FnG P w K mg base 12 fa fd ["_law_script"] (@spLaw ⟨K⟩ 63) := by
  have d0 := def_mk (T := tab) (gs := gs) X G s_full c_full t_full (fun _ _ _ _ _ _ us hl => match us, hl with | [_], _ => rfl) a0 l0 c0 k0
  have d1 := def_mk (T := tab) (gs := gs) X G s_moves_of c_moves_of t_moves_of (fun _ _ _ _ _ _ us hl => match us, hl with | [_], _ => rfl) a1 l1 c1 k1
  have d2 := def_mk (T := tab) (gs := gs) X G s_twos c_twos t_twos (fun _ _ _ _ _ _ us hl => match us, hl with | [_], _ => rfl) a2 l2 c2 k2
  have d3 := def_mk (T := tab) (gs := gs) X G s_slack c_slack t_slack (fun _ _ _ _ _ _ us hl => match us, hl with | [_], _ => rfl) a3 l3 c3 k3
  have d4 := def_mk (T := tab) (gs := gs) X G s__law_hand c__law_hand t__law_hand (fun _ _ _ _ _ _ us hl => match us, hl with | [_], _ => rfl) a4 l4 c4 k4
  have d5 := def_mk (T := tab) (gs := gs) X G s__law_step c__law_step t__law_step (fun _ _ _ _ _ _ us hl => match us, hl with | [_], _ => rfl) a5 l5 c5 k5
  have d6 := def_mk (T := tab) (gs := gs) X G s__law_take c__law_take t__law_take (fun _ _ _ _ _ _ us hl => match us, hl with | [_], _ => rfl) a6 l6 c6 k6
  have d7 := def_mk (T := tab) (gs := gs) X G s__law_draw c__law_draw t__law_draw (fun _ _ _ _ _ _ us hl => match us, hl with | [_, _], _ => rfl) a7 l7 c7 k7
  have d8 := def_mk (T := tab) (gs := gs) X G s__law_most c__law_most t__law_most (fun _ _ _ _ _ _ us hl => match us, hl with | [_, _, _], _ => rfl) a8 l8 c8 k8
  have d9 := def_mk (T := tab) (gs := gs) X G s__law_behind c__law_behind t__law_behind (fun _ _ _ _ _ _ us hl => match us, hl with | [_, _, _], _ => rfl) a9 l9 c9 k9
  have d10 := def_mk (T := tab) (gs := gs) X G s__law_is_alone c__law_is_alone t__law_is_alone (fun _ _ _ _ _ _ us hl => match us, hl with | [_, _, _], _ => rfl) a10 l10 c10 k10
  have d11 := def_mk (T := tab) (gs := gs) X G s__law_figures c__law_figures t__law_figures (fun _ _ _ _ _ _ us hl => match us, hl with | [_], _ => rfl) a11 l11 c11 k11
  have d12 := def_mk (T := tab) (gs := gs) X G s__law_is_full c__law_is_full t__law_is_full (fun _ _ _ _ _ _ us hl => match us, hl with | [_, _], _ => rfl) a12 l12 c12 k12
  have d13 := def_mk (T := tab) (gs := gs) X G s__law_led c__law_led t__law_led (fun _ _ _ _ _ _ us hl => match us, hl with | [_, _], _ => rfl) a13 l13 c13 k13
  have d14 := def_mk (T := tab) (gs := gs) X G s__law_right c__law_right t__law_right (fun _ _ _ _ _ _ us hl => match us, hl with | [_], _ => rfl) a14 l14 c14 k14
  have d15 := def_mk (T := tab) (gs := gs) X G s_law c_law t_law (fun _ _ _ _ _ _ us hl => match us, hl with | [_], _ => rfl) a15 l15 c15 k15
  have hd : ∀ f ∈ gs.fns, ∃ fa fd N ps st F, @DefAt ⟨K⟩ tab gs mg f fa fd N ps st F := by
    intro f hf
    rcases List.mem_cons.mp hf with rfl | hf; exact ⟨_, _, _, _, _, _, d0⟩
    rcases List.mem_cons.mp hf with rfl | hf; exact ⟨_, _, _, _, _, _, d1⟩
    rcases List.mem_cons.mp hf with rfl | hf; exact ⟨_, _, _, _, _, _, d2⟩
    rcases List.mem_cons.mp hf with rfl | hf; exact ⟨_, _, _, _, _, _, d3⟩
    rcases List.mem_cons.mp hf with rfl | hf; exact ⟨_, _, _, _, _, _, d4⟩
    rcases List.mem_cons.mp hf with rfl | hf; exact ⟨_, _, _, _, _, _, d5⟩
    rcases List.mem_cons.mp hf with rfl | hf; exact ⟨_, _, _, _, _, _, d6⟩
    rcases List.mem_cons.mp hf with rfl | hf; exact ⟨_, _, _, _, _, _, d7⟩
    rcases List.mem_cons.mp hf with rfl | hf; exact ⟨_, _, _, _, _, _, d8⟩
    rcases List.mem_cons.mp hf with rfl | hf; exact ⟨_, _, _, _, _, _, d9⟩
    rcases List.mem_cons.mp hf with rfl | hf; exact ⟨_, _, _, _, _, _, d10⟩
    rcases List.mem_cons.mp hf with rfl | hf; exact ⟨_, _, _, _, _, _, d11⟩
    rcases List.mem_cons.mp hf with rfl | hf; exact ⟨_, _, _, _, _, _, d12⟩
    rcases List.mem_cons.mp hf with rfl | hf; exact ⟨_, _, _, _, _, _, d13⟩
    rcases List.mem_cons.mp hf with rfl | hf; exact ⟨_, _, _, _, _, _, d14⟩
    rcases List.mem_cons.mp hf with rfl | hf; exact ⟨_, _, _, _, _, _, d15⟩
    exact absurd hf List.not_mem_nil
  have hb : ∀ x ∈ bltNames, PySem.W.nsIn K mainGlobals x = some none := by
    intro x hx
    rcases List.mem_cons.mp hx with rfl | hx; exact z0
    rcases List.mem_cons.mp hx with rfl | hx; exact z1
    rcases List.mem_cons.mp hx with rfl | hx; exact z2
    rcases List.mem_cons.mp hx with rfl | hx; exact z3
    rcases List.mem_cons.mp hx with rfl | hx; exact z4
    rcases List.mem_cons.mp hx with rfl | hx; exact z5
    rcases List.mem_cons.mp hx with rfl | hx; exact z6
    rcases List.mem_cons.mp hx with rfl | hx; exact z7
    rcases List.mem_cons.mp hx with rfl | hx; exact z8
    rcases List.mem_cons.mp hx with rfl | hx; exact z9
    rcases List.mem_cons.mp hx with rfl | hx; exact z10
    rcases List.mem_cons.mp hx with rfl | hx; exact z11
    rcases List.mem_cons.mp hx with rfl | hx; exact z12
    rcases List.mem_cons.mp hx with rfl | hx; exact z13
    rcases List.mem_cons.mp hx with rfl | hx; exact z14
    rcases List.mem_cons.mp hx with rfl | hx; exact z15
    rcases List.mem_cons.mp hx with rfl | hx; exact z16
    rcases List.mem_cons.mp hx with rfl | hx; exact z17
    rcases List.mem_cons.mp hx with rfl | hx; exact z18
    rcases List.mem_cons.mp hx with rfl | hx; exact z19
    exact absurd hx List.not_mem_nil
  have hc : ∀ x d, gs.csts.lookup x = some d → ∃ u v, mg x = some u ∧ L2.RelV v u ∧ ∀ Hs, @Sh ⟨K⟩ Hs d v := by
    intro x d hx
    simp only [gs, List.lookup_cons, List.lookup_nil] at hx
    cases hx
  have top : @TopOk ⟨K⟩ tab gs mg := @TopOk.mk ⟨K⟩ tab gs mg hd (blt_mk X G hb) hc
  cases hfa.symm.trans (@DefAt.mgf ⟨K⟩ _ _ _ _ _ _ _ _ _ _ d15)
  exact ⟨_, fun s v => .of_eq rfl, fun base _ _ => @law_ok ⟨K⟩ tab gs P w mg base 63 12 _ _ _ _ _ _ _ top d15 rfl spec_law⟩
end K63
open PySem PySem.W PyProof.Rows
set_option maxHeartbeats 0 in
theorem PySem.Challenge.cw_nearcase_k63_whole_perfect_standings_holds : PySem.Challenge.rw_nearcase_k63_whole_perfect_standings.Holds := by
  w_on; o_law; k_head; (case hw => w_witness2)
  k_fill
  refine Itp.walk_go (l := PySem.Challenge.rw_nearcase_k63_whole_perfect_standings) (n := 63) (k := 12) (x := "_law_script") (sp := fun w => @Itp.spLaw ⟨_⟩ 63) rfl (by decide) rfl ⟨rfl, by decide, by decide⟩ (fun w h Y => PySem.W.kIn_of Y) ?F (fun _ _ a ns hl _ hS => ⟨a, ns, rfl, hS, hl, fun _ => rfl⟩)
  case F =>
    intro w mg fa h KX G hmg
    refine' K63.all_mk KX G hmg ?a0 ?l0 ?c0 ?k0 ?a1 ?l1 ?c1 ?k1 ?a2 ?l2 ?c2 ?k2 ?a3 ?l3 ?c3 ?k3 ?a4 ?l4 ?c4 ?k4 ?a5 ?l5 ?c5 ?k5 ?a6 ?l6 ?c6 ?k6 ?a7 ?l7 ?c7 ?k7 ?a8 ?l8 ?c8 ?k8 ?a9 ?l9 ?c9 ?k9 ?a10 ?l10 ?c10 ?k10 ?a11 ?l11 ?c11 ?k11 ?a12 ?l12 ?c12 ?k12 ?a13 ?l13 ?c13 ?k13 ?a14 ?l14 ?c14 ?k14 ?a15 ?l15 ?c15 ?k15 ?z0 ?z1 ?z2 ?z3 ?z4 ?z5 ?z6 ?z7 ?z8 ?z9 ?z10 ?z11 ?z12 ?z13 ?z14 ?z15 ?z16 ?z17 ?z18 ?z19
    (case a0 => k_is); (case l0 => k_is); (case c0 => k_is); (case k0 => k_is); (case a1 => k_is); (case l1 => k_is); (case c1 => k_is); (case k1 => k_is); (case a2 => k_is); (case l2 => k_is); (case c2 => k_is); (case k2 => k_is); (case a3 => k_is); (case l3 => k_is); (case c3 => k_is); (case k3 => k_is); (case a4 => k_is); (case l4 => k_is); (case c4 => k_is); (case k4 => k_is); (case a5 => k_is); (case l5 => k_is); (case c5 => k_is); (case k5 => k_is); (case a6 => k_is); (case l6 => k_is); (case c6 => k_is); (case k6 => k_is); (case a7 => k_is); (case l7 => k_is); (case c7 => k_is); (case k7 => k_is); (case a8 => k_is); (case l8 => k_is); (case c8 => k_is); (case k8 => k_is); (case a9 => k_is); (case l9 => k_is); (case c9 => k_is); (case k9 => k_is); (case a10 => k_is); (case l10 => k_is); (case c10 => k_is); (case k10 => k_is); (case a11 => k_is); (case l11 => k_is); (case c11 => k_is); (case k11 => k_is); (case a12 => k_is); (case l12 => k_is); (case c12 => k_is); (case k12 => k_is); (case a13 => k_is); (case l13 => k_is); (case c13 => k_is); (case k13 => k_is); (case a14 => k_is); (case l14 => k_is); (case c14 => k_is); (case k14 => k_is); (case a15 => k_is); (case l15 => k_is); (case c15 => k_is); (case k15 => k_is); (case z0 => k_is); (case z1 => k_is); (case z2 => k_is); (case z3 => k_is); (case z4 => k_is); (case z5 => k_is); (case z6 => k_is); (case z7 => k_is); (case z8 => k_is); (case z9 => k_is); (case z10 => k_is); (case z11 => k_is); (case z12 => k_is); (case z13 => k_is); (case z14 => k_is); (case z15 => k_is); (case z16 => k_is); (case z17 => k_is); (case z18 => k_is); (case z19 => k_is)
