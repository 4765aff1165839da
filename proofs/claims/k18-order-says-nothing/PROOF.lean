import PyProof.Rows.All
import Wide.All
import OpenK.AllK
import Wide.FinOn
import HandS.ForMost
import HandS.Wide
import HandS.Walk
import HandS.Zip
import HandS.Rev
import HandS.TupAny
import HandS.IsInst
import HandS.Deep
import HandS.SortInts
import HandS.Style
import HandS.Replace
import HandS.SortKw
import HandS.More
import HandS.NoneIn
import HandS.Conv
import KE.DataMinMax
import PyProof.LongRange
import PyProof.FactsAll.str_3
import PyProof.FactsAll.str_4
import PyProof.FactsAll.list_3
import HandS.Codes
import HandS.Flow
import KE.GoesEnum
import KE.SortData
import HandS.Exc
import HandS.ExcOwn
import HandS.TryMany
import HandS.TryElse
import HandS.ExcInit
import HandS.ExcIs
import HandS.ExcField
import HandS.Defaults
import HandS.Small
import HandS.DictTup
import HandS.DictComp
import HandS.SetKeys
import HandS.StrMore
import HandS.StrSplit
import HandS.FStr
import KE.KExcIs
import KE.KDictKeyed
import KE.KDictDisplayH
import KE.KDictWalk
import KE.KDictLaw
import KE.KDictList
import KE.KDictCopyH
import PySem.Challenge.RW_nearcase_k18_order_says_nothing
set_option Elab.async false
set_option pp.maxSteps 500
set_option pp.deepTerms.threshold 6
set_option linter.all false
set_option maxRecDepth 100000
set_option maxHeartbeats 4000000
/-! Itp: immutable data D, owned lists O, a core form (E, S), its weakest preconditions (wpE, wpS), and the
    compilation of the given form to the core (compE, compS). -/
namespace Itp
open PySem

/-! ### data -/
/-- data that is never written again -/
inductive D where
  | non | bl (b : Bool) | int (i : Int) | str (s : Str) | lst (xs : List D) | tup (xs : List D) | ty (n : String)
  /-- the script: read by a slice alone -/
  | frz (xs : List D)
  /-- a caught exception: where it stands, its dict, its class, its fields -/
  | xcp (a : Addr) (dd : Option Addr) (c : Nat) (ds : List D)
  /-- a cell of the region: where it stands -/
  | ref (a : Addr)
  /-- a dict, its keys ints and texts; or tuples of them -/
  | dcK (ks : List L2.Key) (vs : List D) | dcT (ks : List (List L2.Key)) (vs : List D)
  /-- an instance of the own class c -/
  | obj (c : Nat) (ns : List Str) (vs : List D)
mutual
def D.py : D → PyData
  | .non => .none | .bl b => .bool b | .int i => .int i | .str s => .str s
  | .lst xs => .list (D.pyAll xs) | .tup xs => .tuple (D.pyAll xs) | .ty _ => .none | .frz _ => .none | .xcp _ _ _ _ => .none
  | .ref _ => .none | .dcK _ _ => .none | .dcT _ _ => .none | .obj _ _ _ => .none
def D.pyAll : List D → List PyData
  | [] => []
  | x :: xs => D.py x :: D.pyAll xs
end
mutual
/-- no type among its parts -/
def D.plain : D → Bool
  | .lst xs => D.plainAll xs | .tup xs => D.plainAll xs | .ty _ => false | .frz _ => false | .xcp _ _ _ _ => false
  | .ref _ => false | .dcK _ _ => false | .dcT _ _ => false | .obj _ _ _ => false
  | .non => true | .bl _ => true | .int _ => true | .str _ => true
def D.plainAll : List D → Bool
  | [] => true
  | x :: xs => D.plain x && D.plainAll xs
end
def D.isLst : D → Bool
  | .lst _ => true
  | _ => false
def D.isNon : D → Bool
  | .non => true
  | _ => false
def D.isFrz : D → Bool
  | .frz _ => true
  | .xcp _ _ _ _ => true
  | _ => false
def D.isScal : D → Bool
  | .non => true | .bl _ => true | .int _ => true | .str _ => true
  | _ => false
/-- what == may be asked of -/
def D.ok (x : D) : Prop := x.plain = true ∧ SeqAt.shaped x.py = true

/-- what a variable holds: data; a list of its own (p: lent to this def by its caller); such a list while a loop walks it -/
inductive O where
  | d (x : D)
  | l (p : Bool) (xs : List D)
  | k (p : Bool) (xs : List D)
  /-- the region: cells, and which of them are locked -/
  | h (M : List (Addr × D)) (L : List Nat)
abbrev St := List (Option O)
/-- what an expression gives: a value; or the variable in slot i, as it will be -/
inductive R where
  | v (o : O)
  | r (i : Nat)
  /-- the region's cell in place n (the region: slot h), which stands at a: to be read -/
  | c (h : Nat) (a : Addr) (n : Nat)

def oView : O → D
  | .d x => x
  | .l _ xs => .lst xs
  | .k _ xs => .lst xs
  | .h _ _ => .non
/-- what stands in a cell -/
def cellAt (s : St) (h n : Nat) : Option (Addr × D) := match s[h]? with
  | some (some (.h M _)) => M[n]?
  | _ => none
/-- to be read -/
def view : R → St → Option D
  | .v o, _ => some (oView o)
  | .r i, s => match s[i]? with
    | some (some (.h _ _)) => none
    | some (some o) => some (oView o)
    | _ => none
  | .c h _ n, s => match cellAt s h n with
    | some (_, x) => some x
    | none => none
def viewAll : List R → St → Option (List D)
  | [], _ => some []
  | r :: rs, s => match view r s, viewAll rs s with
    | some x, some xs => some (x :: xs)
    | _, _ => none
/-- to be kept within something else: shared from then on -/
def froz : R → St → Option (D × St)
  | .v (.d x), s => some (x, s)
  | .v (.l _ xs), s => some (.lst xs, s)
  | .v (.k _ _), _ => none
  | .v (.h _ _), _ => none
  | .c _ a _, s => some (.ref a, s)
  | .r i, s => match s[i]? with
    | some (some (.d x)) => some (x, s)
    | some (some (.l false xs)) => some (.lst xs, s.set i (some (.d (.lst xs))))
    | _ => none
def frozAll : List R → St → Option (List D × St)
  | [], s => some ([], s)
  | r :: rs, s => match froz r s with
    | some (x, s1) => match frozAll rs s1 with
      | some (xs, s2) => some (x :: xs, s2)
      | none => none
    | none => none
/-- to be handed to a def: shared, but for a list that was lent to this def itself -/
def fzo : R → St → Option (R × St)
  | .v o, s => match froz (.v o) s with
    | some (x, s1) => some (.v (.d x), s1)
    | none => none
  | .c _ a _, s => some (.v (.d (.ref a)), s)
  | .r i, s => match s[i]? with
    | some (some (.d x)) => some (.v (.d x), s)
    | some (some (.l false xs)) => some (.v (.d (.lst xs)), s.set i (some (.d (.lst xs))))
    | some (some (.l true _)) => some (.r i, s)
    | some (some (.k _ _)) => some (.r i, s)
    | _ => none
/-- to be stored at a name -/
def take : R → St → Option (O × St)
  | .v (.d x), s => some (.d x, s)
  | .v (.l _ xs), s => some (.l false xs, s)
  | .v (.k _ _), _ => none
  | .v (.h _ _), _ => none
  | .c _ a _, s => some (.d (.ref a), s)
  | .r i, s => match froz (.r i) s with
    | some (x, s1) => some (.d x, s1)
    | none => none
/-- to be handed back -/
def leave : R → St → Option (O × St)
  | .r i, s => match s[i]? with
    | some (some (.d x)) => some (.d x, s)
    | some (some (.l false xs)) => some (.l false xs, s.set i none)
    | _ => none
  | .v o, s => take (.v o) s
  | .c _ a _, s => some (.d (.ref a), s)

/-! ### own exceptions: classes by numbers (0 the base, 1 ValueError), fields by numbers -/
def xNm : List Str := ["CaseError", "ValueError", "BadCase", "TooFar", "NoGap", "NoCut", "NoMap", "NoMove", "NeverSo", "TooMany", "Nothing", "Full", "BadWeb", "BadCourt", "Unlike", "NoText", "NoRow", "NoName", "Taken"]
def fNm : List Str := ["at", "cut", "number", "place", "name", "most", "where"]
def xfT : List (List Nat) := [[], [], [0], [], [0], [1], [2], [0], [3, 4], [5], [], [], [6, 0], [6, 0], [], [], [], [4], [4]]
def xFl (c : Nat) : List Nat := (xfT[c]?).getD []
/-- c is a class under t -/
def xsub (c t : Nat) : Bool := Nat.ble t 1 || Nat.beq c t
def lookN : Nat → List Nat → List D → Option D
  | f, g :: gs, d :: ds => if Nat.beq f g = true then some d else lookN f gs ds
  | _, _, _ => none
def xdd (ds : List D) (d : Addr) : Option Addr := match ds with
  | [] => none
  | _ => some d
/-- how an exception that leaves a def is handed to the caller -/
def excO (c : Nat) (ds : List D) : O := .d (.xcp 0 none c ds)
def excOf : O → Option (Nat × List D)
  | .d (.xcp _ _ c ds) => some (c, ds)
  | _ => none
def excTo (res : O) (f : Nat → List D → Prop) (g : Prop) : Prop := match excOf res with
  | some (c, ds) => f c ds
  | none => g
/-- what an exception meets, and the one that is handled -/
structure Xc where
  ex : Nat → List D → St → Prop
  cur : Option (Addr × Nat × Option Addr)
def isXc (X : Xc) (x : D) (cs : List Nat) (Q : Bool → Prop) : Prop := match x with
  | .xcp a dd c _ => X.cur = some (a, c, dd) ∧ Q (cs.any (xsub c))
  | _ => False
def atXc (X : Xc) (x : D) (f : Nat) (Q : D → Prop) : Prop := match x with
  | .xcp a (some d) c ds => X.cur = some (a, c, some d) ∧ ∃ z, lookN f (xFl c) ds = some z ∧ Q z
  | _ => False

/-! ### targets -/
inductive Tg where
  | nm (i : Nat) | tp (t : Tg) | nil | cons (a b : Tg)
def put (i : Nat) (o : O) (s : St) : Option St := match s[i]? with
  | some none => some (s.set i (some o))
  | some (some (.d _)) => some (s.set i (some o))
  | some (some (.l false _)) => some (s.set i (some o))
  | some (some (.k false _)) => some (s.set i (some o))
  | _ => none
mutual
def setTg : Tg → D → St → Option St
  | .nm i, x, s => put i (.d x) s
  | .tp t, .tup xs, s => setTgs t xs s
  | .tp t, .lst xs, s => setTgs t xs s
  | _, _, _ => none
def setTgs : Tg → List D → St → Option St
  | .nil, [], s => some s
  | .cons a b, x :: xs, s => match setTg a x s with
    | some s1 => setTgs b xs s1
    | none => none
  | _, _, _ => none
end

abbrev line : Nat := 16777216
/-! ### dicts -/
def keyD : L2.Key → D
  | .inl i => .int i
  | .inr s => .str s
def keyOf : D → Option L2.Key
  | .int i => some (.inl i)
  | .str s => some (.inr s)
  | _ => none
def keysOf : List D → Option (List L2.Key)
  | [] => some []
  | x :: xs => match keyOf x, keysOf xs with
    | some k, some ks => some (k :: ks)
    | _, _ => none
def keyT (ks : List L2.Key) : D := .tup (ks.map keyD)
section
variable {κ : Type} [DecidableEq κ]
def dget : List κ → List D → κ → Option D
  | k :: ks, v :: vs, j => if k = j then some v else dget ks vs j
  | _, _, _ => none
/-- behind a store at k -/
def dput (ks : List κ) (vs : List D) (k : κ) (y : D) : List κ × List D :=
  if k ∈ ks then (ks, List.zipWith (fun j v => if j = k then y else v) ks vs) else (ks ++ [k], vs ++ [y])
end
/-- d[k], what stands there -/
def dGet (x y : D) (Q : Option D → Prop) : Prop := match x, y with
  | .dcK ks vs, y => ∃ k, keyOf y = some k ∧ Q (dget ks vs k)
  | .dcT ks vs, .tup ys => ∃ k, keysOf ys = some k ∧ Q (dget ks vs k)
  | _, _ => False
def dPut (x y v : D) (Q : D → Prop) : Prop := match x, y with
  | .dcK ks vs, y => ∃ k, keyOf y = some k ∧ ks.length < line ∧ Q (.dcK (dput ks vs k v).1 (dput ks vs k v).2)
  | .dcT ks vs, .tup ys => ∃ k, keysOf ys = some k ∧ ks.length < line ∧ Q (.dcT (dput ks vs k v).1 (dput ks vs k v).2)
  | _, _ => False
/-- the number of a dict's keys -/
def dLen : D → Option Nat
  | .dcK ks _ => some ks.length
  | .dcT ks _ => some ks.length
  | _ => none

/-! ### operations -/
def mulOk (i j : Int) : Prop := (-(2 ^ 64) < i ∧ i < 2 ^ 64) ∨ (-(2 ^ 64) < j ∧ j < 2 ^ 64) ∨ (i.natAbs < 2 ^ 8000 ∧ j.natAbs < 2 ^ 8000)
def divOk (j : Int) : Prop := 0 < j ∧ j.natAbs < 2 ^ 8000
def binop (op : Operator) (x y : D) (Q : O → Prop) : Prop := match op, x, y with
  | .Add, .int i, .int j => Q (.d (.int (i + j)))
  | .Add, .str a, .str b => a.length + b.length ≤ line ∧ Q (.d (.str (a ++ b)))
  | .Add, .tup a, .tup b => a.length + b.length ≤ line ∧ Q (.d (.tup (a ++ b)))
  | .Add, .lst a, .lst b => a.length + b.length ≤ line ∧ Q (.l false (a ++ b))
  | .Sub, .int i, .int j => Q (.d (.int (i - j)))
  | .Mult, .int i, .int j => mulOk i j ∧ Q (.d (.int (i * j)))
  | .Mult, .str a, .int n => (0 ≤ n ∧ n ≤ line ∧ a.length * n.toNat ≤ line) ∧ Q (.d (.str (Txt.mul a n)))
  | .Mult, .lst a, .int n => (0 ≤ n ∧ n ≤ line ∧ a.length * n.toNat ≤ line) ∧ Q (.l false (List.replicate n.toNat a).flatten)
  | .FloorDiv, .int i, .int j => divOk j ∧ Q (.d (.int (i / j)))
  | .Mod, .int i, .int j => 0 < j ∧ Q (.d (.int (i % j)))
  | .Pow, .int i, .int j => (0 ≤ j ∧ j ≤ 1000000 ∧ i.natAbs < 2 ^ 64) ∧ Q (.d (.int (i ^ j.toNat)))
  | _, _, _ => False
/-- a op= b, of what is not changed in its place -/
def iop (op : Operator) (x y : D) (Q : O → Prop) : Prop := match op, x, y with
  | .Add, .int i, .int j => Q (.d (.int (i + j)))
  | .Add, .str a, .str b => a.length + b.length ≤ line ∧ Q (.d (.str (a ++ b)))
  | .Sub, .int i, .int j => Q (.d (.int (i - j)))
  | .Mult, .int i, .int j => ((-(2 ^ 64) < i ∧ i < 2 ^ 64) ∨ (-(2 ^ 64) < j ∧ j < 2 ^ 64)) ∧ Q (.d (.int (i * j)))
  | _, _, _ => False
def cmpop (op : CmpOp) (x y : D) (Q : Bool → Prop) : Prop := match op, x, y with
  | .Eq, .int i, .int j => Q (decide (i = j))
  | .Eq, .str a, .str b => Q (decide (a = b))
  | .NotEq, .int i, .int j => Q (!decide (i = j))
  | .NotEq, .str a, .str b => Q (!decide (a = b))
  | .Eq, x, y => x.ok ∧ y.ok ∧ Q (PyData.eqv x.py y.py)
  | .NotEq, x, y => x.ok ∧ y.ok ∧ Q (!PyData.eqv x.py y.py)
  | .Lt, .int i, .int j => Q (decide (i < j))
  | .LtE, .int i, .int j => Q (decide (i ≤ j))
  | .Gt, .int i, .int j => Q (decide (j < i))
  | .GtE, .int i, .int j => Q (decide (j ≤ i))
  | .Lt, .str i, .str j => Q (decide (i.cps.toList < j.cps.toList))
  | .LtE, .str i, .str j => Q (!decide (j.cps.toList < i.cps.toList))
  | .Gt, .str i, .str j => Q (decide (j.cps.toList < i.cps.toList))
  | .GtE, .str i, .str j => Q (!decide (i.cps.toList < j.cps.toList))
  | .Is, x, .non => Q x.isNon
  | .IsNot, x, .non => Q (!x.isNon)
  | .Is, .bl a, .bl b => Q (decide (a = b))
  | .IsNot, .bl a, .bl b => Q (!decide (a = b))
  | .In, x, .lst ys => x.ok ∧ (D.lst ys).ok ∧ Q ((D.pyAll ys).any fun y => PyData.eqv y x.py)
  | .NotIn, x, .lst ys => x.ok ∧ (D.lst ys).ok ∧ Q (!(D.pyAll ys).any fun y => PyData.eqv y x.py)
  | .In, .str x, .str y => ∃ c, x = ⟨#[c]⟩ ∧ Q (decide (c ∈ y.cps.toList))
  | .NotIn, .str x, .str y => ∃ c, x = ⟨#[c]⟩ ∧ Q (!decide (c ∈ y.cps.toList))
  | .In, x, .dcK ks vs => dGet (.dcK ks vs) x fun o => Q o.isSome
  | .NotIn, x, .dcK ks vs => dGet (.dcK ks vs) x fun o => Q (!o.isSome)
  | .In, x, .dcT ks vs => dGet (.dcT ks vs) x fun o => Q o.isSome
  | .NotIn, x, .dcT ks vs => dGet (.dcT ks vs) x fun o => Q (!o.isSome)
  | _, _, _ => False
/-- a value's truth -/
def truth (x : D) (Q : Bool → Prop) : Prop := match x with
  | .non => Q false
  | .bl b => Q b
  | .int i => Q (i != 0)
  | .str z => z.length ≤ line ∧ Q ((z.length : Int) != 0)
  | .lst xs => Q (!xs.isEmpty)
  | .tup xs => Q (!xs.isEmpty)
  | .dcK ks _ => Q (!ks.isEmpty)
  | _ => False
def index (x y : D) (Q : D → Prop) : Prop := match x, y with
  | .lst xs, .int i => ∃ z, L2.atI xs i = some z ∧ Q z
  | .tup xs, .int i => ∃ z, L2.atI xs i = some z ∧ Q z
  | .str z, .int i => z.length ≤ line ∧ ∃ c, L2.atI z.cps.toList i = some c ∧ Q (.str ⟨#[c]⟩)
  | .dcK ks vs, y => dGet (.dcK ks vs) y fun o => ∃ z, o = some z ∧ Q z
  | .dcT ks vs, y => dGet (.dcT ks vs) y fun o => ∃ z, o = some z ∧ Q z
  | _, _ => False
def cut {α : Type} (xs : List α) (lo hi : Option Int) : List α := (xs.drop (HT.sIx xs.length 0 lo)).take (HT.sIx xs.length xs.length hi - HT.sIx xs.length 0 lo)
def slice (x : D) (lo hi : Option Int) (Q : O → Prop) : Prop := match x with
  | .lst xs => Q (.l false (cut xs lo hi))
  | .frz xs => Q (.l false (cut xs lo hi))
  | .tup xs => Q (.d (.tup (cut xs lo hi)))
  | .str z => z.length ≤ line ∧ Q (.d (.str (L2.cutS z lo hi)))
  | _ => False

def rangeD (lo : Int) (n : Nat) : List D := (List.range n).map fun k => .int (lo + (k : Nat))
def RgD (i j : Int) : Prop := (j - i).toNat ≤ 2 ^ 24
/-- built-in functions -/
inductive B where
  | len | abs | max | min | sum | all | any | int | str | list | tuple | repr
  /-- list(range(..)) -/
  | lrg
  /-- max and min, default=None -/
  | maxd | mind
/-- a built-in of one name, without keywords -/
def B.own : B → Bool
  | .lrg => false | .maxd => false | .mind => false | _ => true
def intsOf : List D → Option (List Int)
  | [] => some []
  | .int i :: xs => (intsOf xs).map (i :: ·)
  | _ :: _ => none
def boolsOf : List D → Option (List Bool)
  | [] => some []
  | .bl i :: xs => (boolsOf xs).map (i :: ·)
  | _ :: _ => none
def strsOf : List D → Option (List Str)
  | [] => some []
  | .str i :: xs => (strsOf xs).map (i :: ·)
  | _ :: _ => none
def mxI : List Int → D
  | [] => .non
  | n :: r => .int (r.foldl max n)
def mnI : List Int → D
  | [] => .non
  | n :: r => .int (r.foldl min n)
def bltin (b : B) (xs : List D) (Q : O → Prop) : Prop := match b, xs with
  | .len, [.lst xs] => Q (.d (.int xs.length))
  | .len, [.tup xs] => Q (.d (.int xs.length))
  | .len, [.str z] => z.length ≤ line ∧ Q (.d (.int z.length))
  | .len, [.dcK ks _] => Q (.d (.int ks.length))
  | .abs, [.int i] => Q (.d (.int (if i < 0 then -i else i)))
  | .max, [.int i, .int j] => Q (.d (.int (if j > i then j else i)))
  | .min, [.int i, .int j] => Q (.d (.int (if j < i then j else i)))
  | .max, [.lst xs] => ∃ ns, intsOf xs = some ns ∧ 0 < ns.length ∧ ∀ m, m ∈ ns → (∀ y, y ∈ ns → y ≤ m) → Q (.d (.int m))
  | .min, [.lst xs] => ∃ ns, intsOf xs = some ns ∧ 0 < ns.length ∧ ∀ m, m ∈ ns → (∀ y, y ∈ ns → m ≤ y) → Q (.d (.int m))
  | .sum, [.lst xs] => ∃ ns, intsOf xs = some ns ∧ Q (.d (.int ns.sum))
  | .all, [.lst xs] => ∃ bs, boolsOf xs = some bs ∧ Q (.d (.bl (bs.all id)))
  | .any, [.lst xs] => ∃ bs, boolsOf xs = some bs ∧ Q (.d (.bl (bs.any id)))
  | .int, [.int i] => Q (.d (.int i))
  | .int, [.bl k] => Q (.d (.int (if k then 1 else 0)))
  | .str, [.int i] => i.natAbs.log2 < 1920 ∧ Q (.d (.str (toString i)))
  | .list, [.lst xs] => Q (.l false xs)
  | .list, [.tup xs] => Q (.l false xs)
  | .tuple, [.lst xs] => Q (.d (.tup xs))
  | .tuple, [.tup xs] => Q (.d (.tup xs))
  | .repr, [x] => x.plain = true ∧ x.py.showable = true ∧ x.py.shown.length ≤ line ∧ x.py.depth ≤ 60 ∧ Q (.d (.str x.py.shown))
  | .lrg, [.int j] => RgD 0 j ∧ Q (.l false (rangeD 0 (j - 0).toNat))
  | .lrg, [.int i, .int j] => RgD i j ∧ Q (.l false (rangeD i (j - i).toNat))
  | .maxd, [.lst xs] => ∃ ns, intsOf xs = some ns ∧ Q (.d (mxI ns))
  | .mind, [.lst xs] => ∃ ns, intsOf xs = some ns ∧ Q (.d (mnI ns))
  | _, _ => False
/-- methods that change nothing -/
inductive MP where
  | join | index | count | get
/-- whose method it is -/
def recv : MP → D → Bool
  | .join, .str _ => true
  | .index, .str _ => true
  | .count, .str _ => true
  | .index, .lst _ => true
  | .get, .dcK _ _ => true
  | .get, .dcT _ _ => true
  | _, _ => false
def methI (x : D) (as : List D) (Q : O → Prop) : Prop := match x, as with
  | .str z, [.str y] => ∃ i rest, Builtin.Str.occurrences z y 0 z.length 1 = i :: rest ∧ Q (.d (.int (i : Nat)))
  | .lst xs, [y] => (D.lst xs).ok ∧ y.ok ∧ ∃ (j : Nat) (z : D), xs[j]? = some z ∧ PyData.eqv z.py y.py = true ∧ (∀ (m : Nat) (z' : D), m < j → xs[m]? = some z' → PyData.eqv z'.py y.py = false) ∧ Q (.d (.int (j : Nat)))
  | _, _ => False
def methC (x : D) (as : List D) (Q : O → Prop) : Prop := match x, as with
  | .str z, [.str y] => Q (.d (.int (Txt.count z y)))
  | _, _ => False
def methJ (x : D) (as : List D) (Q : O → Prop) : Prop := match x, as with
  | .str z, [.lst xs] => ∃ ys, strsOf xs = some ys ∧ (ys.map (·.length)).sum + ys.length * z.length ≤ 16777216 ∧ Q (.d (.str (Txt.join z ys)))
  | .str z, [.tup xs] => ∃ ys, strsOf xs = some ys ∧ (ys.map (·.length)).sum + ys.length * z.length ≤ 16777216 ∧ Q (.d (.str (Txt.join z ys)))
  | _, _ => False
def methG (x : D) (as : List D) (Q : O → Prop) : Prop := match as with
  | [k] => dGet x k fun o => Q (.d (o.getD .non))
  | [k, d] => dGet x k fun o => Q (.d (o.getD d))
  | _ => False
def meth (m : MP) (x : D) (as : List D) (Q : O → Prop) : Prop := match m with
  | .join => methJ x as Q
  | .index => methI x as Q
  | .count => methC x as Q
  | .get => methG x as Q
/-- methods of a list that change it: the list, the arguments; the answer, the new list -/
inductive MU where
  | append | pop | reverse | clear | extend | insert
def muta (m : MU) (xs : List D) (as : List D) (Q : D → List D → Prop) : Prop := match m, as with
  | .append, [x] => xs.length < line ∧ Q .non (xs ++ [x])
  | .pop, [] => ∃ x, xs[xs.length - 1]? = some x ∧ Q x xs.dropLast
  | .pop, [.int i] => (-(2 ^ 63) ≤ i ∧ i < 2 ^ 63) ∧ ∃ k x, seqIndex? i xs.length = some k ∧ xs[k]? = some x ∧ Q x (xs.eraseIdx k)
  | .reverse, [] => Q .non xs.reverse
  | .clear, [] => Q .non []
  | .extend, [.lst ys] => xs.length + ys.length ≤ line ∧ Q .non (xs ++ ys)
  | .insert, [.int i, y] => xs.length < line ∧ (0 ≤ i ∧ i < 2 ^ 63) ∧ Q .non (xs.take i.toNat ++ [y] ++ xs.drop i.toNat)
  | _, _ => False
/-- a cell's content changed by a method -/
def mutC (m : MU) (x : D) (as : List D) (Q : D → D → Prop) : Prop := match x with
  | .lst xs => muta m xs as fun z ys => Q z (.lst ys)
  | _ => False
/-- d[i] = v, xs[i] = v in a cell -/
def setC (x i v : D) (Q : D → Prop) : Prop := match x with
  | .lst xs => match i with
    | .int k => ∃ j, L2.ixN xs.length k = some j ∧ Q (.lst (xs.set j v))
    | _ => False
  | .dcK ks vs => dPut (.dcK ks vs) i v Q
  | .dcT ks vs => dPut (.dcT ks vs) i v Q
  | _ => False
/-- what may be sorted, and how it is -/
def SrtOk (xs : List D) : Prop := (∀ x ∈ xs, x.plain = true ∧ x.py.depth ≤ 50) ∧ PySem.W.AllAlike (xs.map D.py) ∧ PySem.W.Sortable (xs.map D.py) ∧ xs.length ≤ line
def srtD (xs : List D) : List D := xs.mergeSort (PySem.W.dataLe false D.py)
def srtR (xs : List D) : List D := xs.mergeSort (PySem.W.dataLe true D.py)
/-- type tests -/
def isTy (x : D) (t : String) (Q : Bool → Prop) : Prop := match x with
  | .non => Q (t == "NoneType")
  | .bl _ => Q (t == "bool" || t == "int")
  | .int _ => Q (t == "int")
  | .str _ => Q (t == "str")
  | .lst _ => Q (t == "list")
  | .tup _ => Q (t == "tuple")
  | .dcK _ _ => Q (t == "dict")
  | .dcT _ _ => Q (t == "dict")
  | _ => False

/-! ### what a for walks -/
inductive Src where
  | plain | range | rev | enum | zip
def enumD : Nat → List D → List D
  | _, [] => []
  | n, x :: xs => .tup [.int (n : Int), x] :: enumD (n + 1) xs
def zipD : List D → List D → List D
  | x :: xs, y :: ys => .tup [x, y] :: zipD xs ys
  | _, _ => []
def downD (lo : Int) (n : Nat) : List D := (List.range n).map fun k => .int (lo + (k : Nat) * (-1))
def items (k : Src) (xs : List D) (Q : List D → Prop) : Prop := match k, xs with
  | .plain, [.lst xs] => Q xs
  | .plain, [.tup xs] => Q xs
  | .plain, [.str z] => Q (z.cps.toList.map fun c => .str ⟨#[c]⟩)
  | .range, [.int j] => (-(2 ^ 62) ≤ j ∧ j < 2 ^ 62) ∧ Q (rangeD 0 j.toNat)
  | .range, [.int i, .int j] => Q (rangeD i (j - i).toNat)
  | .range, [.int i, .int j, .int c] => c = -1 ∧ (-(2 ^ 62) ≤ i ∧ i < 2 ^ 62 ∧ -(2 ^ 62) ≤ j ∧ j < 2 ^ 62) ∧ Q (downD i (i - j).toNat)
  | .rev, [.lst xs] => Q xs.reverse
  | .rev, [.tup xs] => Q xs.reverse
  | .enum, [.lst xs] => Q (enumD 0 xs)
  | .enum, [.tup xs] => Q (enumD 0 xs)
  | .zip, [.lst xs, .lst ys] => Q (zipD xs ys)
  | .zip, [.tup xs, .tup ys] => Q (zipD xs ys)
  | .zip, [.lst xs, .tup ys] => Q (zipD xs ys)
  | .zip, [.tup xs, .lst ys] => Q (zipD xs ys)
  | _, _ => False

/-! ### the core form -/
inductive E where
  | var (i : Nat) | cst (x : D) | bin (op : Operator) (a b : E) | neg (a : E) | not_ (a : E)
  | cmp (op : CmpOp) (a b : E) | chn (o1 o2 : CmpOp) (a b c : E) | and_ (a b : E) | or_ (a b : E) | ite (c a b : E)
  | nil | cons (a b : E) | tup (as : E) | lst (as : E) | idx (a b : E)
  | nop | slc (a lo hi : E) | rv (a : E)
  | call (f : Str) (as : E) | blt (b : B) (as : E) | isi (a : E) (t : String) | mth (m : MP) (o as : E) | chg (m : MU) (i : Nat) (as : E)
  | srt (a : E)
  | srr (a : E)
  /-- what an expression gives, shared from then on -/
  | fz (a : E)
  | comp (own : List Nat) (t : Tg) (k : Src) (as c e : E)
  /-- a call that may raise -/
  | clx (f : Str) (as : E)
  /-- of a caught exception: isinstance, a field -/
  | isx (a : E) (cs : List Nat) | xat (a : E) (f : Nat)
  /-- a cell that is read; a list made a cell; a new dict, {}, {k: v} -/
  | at_ (h : Nat) (a : E) | cel (h : Nat) (a : E) | dnw (h : Nat) (t : Bool) | dn1 (h : Nat) (t : Bool) (k v : E)
  /-- a cell changed by a method; a call to which cells are lent; == of all that stands within -/
  | chc (h : Nat) (m : MU) (o as : E) | clh (x : Bool) (h : Nat) (f : Str) (as : E) | cmd (h : Nat) (op : CmpOp) (a b : E)
inductive S where
  | skip | seq (a b : S)
  | asg (t : Tg) (e : E) | par (i j : Nat) (a b : E) | set (o : Nat) (i e : E) | aug (i : Nat) (op : Operator) (e : E) | augs (o : Nat) (i : E) (op : Operator) (e : E)
  | ex (e : E) | ite (c : E) (a b : S) | for_ (t : Tg) (k : Src) (as : E) (b : S) | while_ (c : E) (b : S)
  | ret (e : E) | retn | brk | cnt | never
  /-- x = e, shared at once -/
  | asgd (i : Nat) (e : E)
  /-- raise; try: b, its clauses h (hnd .., at last rer), its else e -/
  | rse (c : Nat) (as : E) | try_ (b h e : S) | hnd (cs : List Nat) (i : Option Nat) (b r : S) | rer
  /-- a cell's place stored; a def with a region of its own, with one lent to it -/
  | seth (h : Nat) (o i e : E) | augh (h : Nat) (o i : E) (op : Operator) (e : E) | root (h : Nat) (b : S) | rgn (h : Nat) (b : S)

/-! ### calls: arguments lent, written back -/
abbrev Ct := Str → List O → (O → List (Option O) → Prop) → Prop
def argO : R → St → Option O
  | .v (.d x), _ => some (.d x)
  | .v (.l _ xs), _ => some (.l false xs)
  | .v (.k _ _), _ => none
  | .v (.h _ _), _ => none
  | .c _ a _, _ => some (.d (.ref a))
  | .r i, s => match s[i]? with
    | some (some (.d x)) => some (.d x)
    | some (some (.l _ xs)) => some (.l true xs)
    | some (some (.k _ xs)) => some (.k false xs)
    | _ => none
def args : List R → St → Option (List O)
  | [], _ => some []
  | r :: rs, s => match argO r s, args rs s with
    | some o, some os => some (o :: os)
    | _, _ => none
/-- the slots whose lists are lent -/
def lent : List R → St → List Nat
  | [], _ => []
  | .r i :: rs, s => match s[i]? with
    | some (some (.l _ _)) => i :: lent rs s
    | _ => lent rs s
  | .v _ :: rs, s => lent rs s
  | .c _ _ _ :: rs, s => lent rs s
/-- the lists that were lent, as they come back (s0: the state at the call) -/
def back (s0 : St) : List R → List (Option O) → St → Option St
  | .r i :: rs, o :: os, s => match s0[i]? with
    | some (some (.l p _)) => match o with
      | some (.l true ys) => back s0 rs os (s.set i (some (.l p ys)))
      | _ => none
    | _ => back s0 rs os s
  | .v _ :: rs, _ :: os, s => back s0 rs os s
  | .c _ _ _ :: rs, _ :: os, s => back s0 rs os s
  | [], [], s => some s
  | _, _, _ => none

/-! ### loops -/
def lockAt (i : Nat) (s : St) : St := match s[i]? with
  | some (some (.l p xs)) => s.set i (some (.k p xs))
  | _ => s
def unlockAt (i : Nat) (s : St) : St := match s[i]? with
  | some (some (.k p xs)) => s.set i (some (.l p xs))
  | _ => s
def lock : List Nat → St → St
  | [], s => s
  | i :: is, s => lock is (lockAt i s)
def unlock : List Nat → St → St
  | [], s => s
  | i :: is, s => unlock is (unlockAt i s)
/-- the cells among results: their regions' slots, their places -/
def cellsOf : List R → List (Nat × Nat)
  | .c h _ j :: rs => (h, j) :: cellsOf rs
  | .v _ :: rs => cellsOf rs
  | .r _ :: rs => cellsOf rs
  | [] => []
def lockC (h j : Nat) (s : St) : St := match s[h]? with
  | some (some (.h M L)) => s.set h (some (.h M (j :: L)))
  | _ => s
def unlockC (h : Nat) (s : St) : St := match s[h]? with
  | some (some (.h M L)) => s.set h (some (.h M L.tail))
  | _ => s
def lockCs : List (Nat × Nat) → St → St
  | [], s => s
  | (h, j) :: cs, s => lockCs cs (lockC h j s)
def unlockCs : List (Nat × Nat) → St → St
  | [], s => s
  | (h, _) :: cs, s => unlockC h (unlockCs cs s)
/-- the sources of a loop, locked while it runs -/
def lk (rs : List R) (s : St) : St := lockCs (cellsOf rs) (lock (lent rs s) s)
def ulk (rs : List R) (s0 s : St) : St := unlockCs (cellsOf rs) (unlock (lent rs s0) s)
def wipe (s : St) : List Nat → St
  | [] => s
  | v :: vs => (wipe s vs).set v none
def mend (s0 : St) (s : St) : List Nat → St
  | [] => s
  | v :: vs => (mend s0 s vs).set v (s0[v]?.join)
structure En where
  nx : St → Prop
  rt : R → St → Prop
  bk : St → Prop := fun _ => False
  ct : St → Prop := fun _ => False
  ex : Nat → List D → St → Prop := fun _ _ _ => False
  cur : Option (Addr × Nat × Option Addr) := none
  hx : Option (Nat × List D) := none
abbrev En.xc (D : En) : Xc := ⟨D.ex, D.cur⟩
/-- the ends of an except suite, its exception not named -/
def En.su (D : En) : En := { D with ex := fun _ _ _ => False, cur := none, hx := none }
/-- a slot written; what is handed on is a list of its own, written out -/
def setK : St → Nat → Option O → (St → Prop) → Prop
  | [], _, _, K => K []
  | _ :: s, 0, o, K => K (o :: s)
  | a :: s, n + 1, o, K => setK s n o fun s' => K (a :: s')
theorem setK_eq : ∀ (s : St) (i : Nat) (o : Option O) (K : St → Prop), setK s i o K = K (s.set i o)
  | [], _, _, _ => rfl
  | _ :: _, 0, _, _ => rfl
  | a :: s, n + 1, o, K => by rw [setK, setK_eq s n o, List.set_cons_succ]
def putN (i : Nat) (o : O) (s : St) (K : St → Prop) : Prop := match s[i]? with
  | some none => setK s i (some o) K
  | _ => False
/-! ### the region -/
def regK (h : Nat) (s : St) (Q : List (Addr × D) → List Nat → Prop) : Prop := match s[h]? with
  | some (some (.h M L)) => Q M L
  | _ => False
def listK {α : Type} : List α → (List α → Prop) → Prop
  | [], K => K []
  | x :: xs, K => listK xs fun ys => K (x :: ys)
/-- a new cell -/
def newC (h : Nat) (x : D) (s : St) (Q : Addr → St → Prop) : Prop := regK h s fun M L => ∀ a : Addr, setK s h (some (.h (M ++ [(a, x)]) L)) fun s' => Q a s'
/-- the content of cell j is x from now on -/
def putC (h j : Nat) (x : D) (s : St) (Q : St → Prop) : Prop := regK h s fun M L => match M[j]? with
  | some (a, _) => L.contains j = false ∧ setK s h (some (.h (M.set j (a, x)) L)) Q
  | none => False
def atR (h : Nat) (r : R) (s : St) (Q : R → St → Prop) : Prop := match r with
  | .v (.d (.ref a)) => ∃ j x, cellAt s h j = some (a, x) ∧ Q (.c h a j) s
  | r => Q r s
def celR (h : Nat) (r : R) (s : St) (Q : R → St → Prop) : Prop := match r with
  | .v (.l _ xs) => newC h (.lst xs) s fun a s' => Q (.v (.d (.ref a))) s'
  | .r i => match s[i]? with
    | some (some (.l false xs)) => setK s i none fun s1 => newC h (.lst xs) s1 fun a s2 => setK s2 i (some (.d (.ref a))) fun s3 => Q (.v (.d (.ref a))) s3
    | _ => False
  | _ => False
def isC (r : R) (h : Nat) (Q : Nat → Prop) : Prop := match r with
  | .c h' _ j => h' = h ∧ Q j
  | _ => False
def cellK (h j : Nat) (s : St) (Q : D → Prop) : Prop := match cellAt s h j with
  | some (_, x) => Q x
  | none => False
/-- the cells that are lent to a call: those in these places -/
def pick (M : List (Addr × D)) : List Nat → Option (List (Addr × D))
  | [] => some []
  | n :: ns => match M[n]?, pick M ns with
    | some c, some cs => some (c :: cs)
    | _, _ => none
/-- which of them are locked -/
def pickL (L : List Nat) : Nat → List Nat → List Nat
  | _, [] => []
  | i, n :: ns => if L.contains n then i :: pickL L (i + 1) ns else pickL L (i + 1) ns
/-- as they come back, new ones behind -/
def merge (M : List (Addr × D)) : List Nat → List (Addr × D) → List (Addr × D)
  | n :: ns, (a, x) :: M2 => merge (M.set n (a, x)) ns M2
  | _, M2 => M ++ M2
/-- the region that a call hands back, behind its other arguments -/
def lastH : List (Option O) → (List (Option O) → List (Addr × D) → Prop) → Prop
  | [], _ => False
  | o :: os, Q => match os with
    | [] => match o with
      | some (.h M _) => Q [] M
      | _ => False
    | _ :: _ => lastH os fun os' M => Q (o :: os') M
/-! all that stands within, cells too -/
mutual
inductive Deep (M : List (Addr × D)) : D → D → Prop
  | same (x : D) : x.plain = true → Deep M x x
  | ref {a : Addr} {j : Nat} {x y : D} : M[j]? = some (a, x) → Deep M x y → Deep M (.ref a) y
  | lst {xs ys : List D} : DeepA M xs ys → Deep M (.lst xs) (.lst ys)
  | tup {xs ys : List D} : DeepA M xs ys → Deep M (.tup xs) (.tup ys)
inductive DeepA (M : List (Addr × D)) : List D → List D → Prop
  | nil : DeepA M [] []
  | cons {x y : D} {xs ys : List D} : Deep M x y → DeepA M xs ys → DeepA M (x :: xs) (y :: ys)
end
/-- what r shows, cells too -/
def deepR (h : Nat) (r : R) (s : St) (Q : D → Prop) : Prop := regK h s fun M _ => ∃ x0 x, view r s = some x0 ∧ Deep M x0 x ∧ Q x
/-- a result that leaves a def with a region in slot h -/
def retC (h : Nat) (r : R) (K : R → Prop) : Prop := match r with
  | .c _ a _ => K (.v (.d (.ref a)))
  | .r i => Nat.beq i h = false ∧ K (.r i)
  | .v o => K (.v o)
/-- at the end of a def to which a region is lent: of the new cells those in these places stay -/
def shrink (h n : Nat) (s : St) (Q : St → Prop) : Prop := regK h s fun M L => ∃ ns W, pick (M.drop n) ns = some W ∧ ns.Nodup ∧ setK s h (some (.h (M.take n ++ W) L)) Q
def lenH (h : Nat) (s : St) : Nat := match s[h]? with
  | some (some (.h M _)) => M.length
  | _ => 0
def dropN (i : Nat) (s : St) (K : St → Prop) : Prop := match s[i]? with
  | some (some (.d _)) => setK s i none K
  | _ => False
/-- .. named: slot i, at a -/
def En.suA (i : Nat) (a : Addr) (c : Nat) (dd : Option Addr) (D : En) : En := { D with ex := fun _ _ _ => False, cur := some (a, c, dd), hx := none, nx := fun s => dropN i s D.nx, bk := fun s => dropN i s D.bk, ct := fun s => dropN i s D.ct }
def forL (t : Tg) (body : En → St → Prop) (ul : St → St) (En : En) : List D → St → Prop
  | [], s => En.nx (ul s)
  | x :: xs, s => ∃ s1, setTg t x s = some s1 ∧
      body { nx := fun s2 => forL t body ul En xs s2, ct := fun s2 => forL t body ul En xs s2, bk := fun s2 => En.nx (ul s2), rt := fun r s2 => En.rt r (ul s2), ex := fun c ds s2 => En.ex c ds (ul s2), cur := En.cur } s1
def compL (t : Tg) (own : List Nat) (s0 : St) (cond : St → (Bool → St → Prop) → Prop) (elt : St → (R → St → Prop) → Prop) (ul : St → St) (Q : R → St → Prop) : List D → List D → St → Prop
  | [], acc, s => Q (.v (.l false acc)) (ul s)
  | x :: xs, acc, s => ∃ s1, setTg t x (wipe s own) = some s1 ∧ cond s1 fun b s2 =>
      if b = true then elt s2 fun r s3 => ∃ d s4, froz r s3 = some (d, s4) ∧ acc.length < line ∧ compL t own s0 cond elt ul Q xs (acc ++ [d]) (mend s0 s4 own)
      else compL t own s0 cond elt ul Q xs acc (mend s0 s2 own)

/-! ### weakest preconditions -/
section
variable (C : Ct) (X : Xc)
mutual
def wpE : E → St → (R → St → Prop) → Prop
  | .var i, s, Q => match s[i]? with
    | some (some (.d x)) => Q (.v (.d x)) s
    | some (some _) => Q (.r i) s
    | _ => False
  | .cst x, s, Q => Q (.v (.d x)) s
  | .bin op a b, s, Q => wpE a s fun ra s1 => wpE b s1 fun rb s2 => ∃ x y, view ra s2 = some x ∧ view rb s2 = some y ∧ binop op x y fun z => Q (.v z) s2
  | .neg a, s, Q => wpE a s fun ra s1 => ∃ i, view ra s1 = some (.int i) ∧ Q (.v (.d (.int (-i)))) s1
  | .not_ a, s, Q => wpE a s fun ra s1 => ∃ b, view ra s1 = some (.bl b) ∧ Q (.v (.d (.bl (!b)))) s1
  | .cmp op a b, s, Q => wpE a s fun ra s1 => wpE b s1 fun rb s2 => ∃ x y, view ra s2 = some x ∧ view rb s2 = some y ∧ cmpop op x y fun z => Q (.v (.d (.bl z))) s2
  | .chn o1 o2 a b c, s, Q => wpE a s fun ra s1 => wpE b s1 fun rb s2 => ∃ x y, view ra s2 = some x ∧ view rb s2 = some y ∧ cmpop o1 x y fun z =>
      if z = true then wpE c s2 fun rc s3 => ∃ y' w, view rb s3 = some y' ∧ view rc s3 = some w ∧ cmpop o2 y' w fun z2 => Q (.v (.d (.bl z2))) s3 else Q (.v (.d (.bl false))) s2
  | .and_ a b, s, Q => wpE a s fun ra s1 => ∃ c, view ra s1 = some (.bl c) ∧ if c = true then wpE b s1 Q else Q (.v (.d (.bl false))) s1
  | .or_ a b, s, Q => wpE a s fun ra s1 => ∃ c, view ra s1 = some (.bl c) ∧ if c = true then Q (.v (.d (.bl true))) s1 else wpE b s1 Q
  | .ite c a b, s, Q => wpT c s fun k s1 => if k = true then wpE a s1 Q else wpE b s1 Q
  | .tup as, s, Q => wpA as s fun rs s1 => ∃ xs s2, frozAll rs s1 = some (xs, s2) ∧ xs.length ≤ line ∧ Q (.v (.d (.tup xs))) s2
  | .lst as, s, Q => wpA as s fun rs s1 => ∃ xs s2, frozAll rs s1 = some (xs, s2) ∧ xs.length ≤ line ∧ Q (.v (.l false xs)) s2
  | .idx a b, s, Q => wpE a s fun ra s1 => wpE b s1 fun rb s2 => ∃ x y, view ra s2 = some x ∧ view rb s2 = some y ∧ index x y fun z => Q (.v (.d z)) s2
  | .slc a lo hi, s, Q => wpE a s fun ra s1 => wpO lo s1 fun l s2 => wpO hi s2 fun h s3 => ∃ x, view ra s3 = some x ∧ slice x l h fun z => Q (.v z) s3
  | .rv a, s, Q => wpE a s fun ra s1 => ∃ xs, view ra s1 = some (.lst xs) ∧ Q (.v (.l false xs.reverse)) s1
  | .call f as, s, Q => wpA as s fun rs s1 => ∃ os, args rs s1 = some os ∧ (lent rs s1).Nodup ∧ C f os fun res fin => ∃ s2, back s1 rs fin s1 = some s2 ∧ Q (.v res) s2
  | .blt b as, s, Q => wpA as s fun rs s1 => ∃ xs, viewAll rs s1 = some xs ∧ bltin b xs fun z => Q (.v z) s1
  | .isi a t, s, Q => wpE a s fun ra s1 => ∃ x, view ra s1 = some x ∧ isTy x t fun z => Q (.v (.d (.bl z))) s1
  | .mth m o as, s, Q => wpE o s fun ro s1 => ∃ x0, view ro s1 = some x0 ∧ recv m x0 = true ∧ wpA as s1 fun rs s2 => ∃ x xs, view ro s2 = some x ∧ viewAll rs s2 = some xs ∧ meth m x xs fun z => Q (.v z) s2
  | .chg m i as, s, Q => (∃ p xs, s[i]? = some (some (.l p xs))) ∧ wpA as s fun rs s1 => ∃ ds s2, frozAll rs s1 = some (ds, s2) ∧ ∃ p xs, s2[i]? = some (some (.l p xs)) ∧ muta m xs ds fun x ys => Q (.v (.d x)) (s2.set i (some (.l p ys)))
  | .srt a, s, Q => wpE a s fun ra s1 => ∃ xs, view ra s1 = some (.lst xs) ∧ SrtOk xs ∧ Q (.v (.l false (srtD xs))) s1
  | .srr a, s, Q => wpE a s fun ra s1 => ∃ xs, view ra s1 = some (.lst xs) ∧ SrtOk xs ∧ Q (.v (.l false (srtR xs))) s1
  | .fz a, s, Q => wpE a s fun ra s1 => ∃ x s2, fzo ra s1 = some (x, s2) ∧ Q x s2
  | .comp own t k as c e, s, Q => wpA as s fun rs s1 => ∃ ds, viewAll rs s1 = some ds ∧ items k ds fun xs =>
      compL t own (lk rs s1) (fun s Q => wpT c s Q) (fun s Q => wpE e s Q) (ulk rs s1) Q xs [] (lk rs s1)
  | .clx f as, s, Q => wpA as s fun rs s1 => ∃ os, args rs s1 = some os ∧ (lent rs s1).Nodup ∧ C f os fun res fin => ∃ s2, back s1 rs fin s1 = some s2 ∧ excTo res (fun c ds => X.ex c ds s2) (Q (.v res) s2)
  | .isx a cs, s, Q => wpE a s fun ra s1 => ∃ x, view ra s1 = some x ∧ isXc X x cs fun z => Q (.v (.d (.bl z))) s1
  | .xat a f, s, Q => wpE a s fun ra s1 => ∃ x, view ra s1 = some x ∧ atXc X x f fun z => Q (.v (.d z)) s1
  | .at_ h a, s, Q => wpE a s fun r s1 => atR h r s1 Q
  | .cel h a, s, Q => wpE a s fun r s1 => celR h r s1 Q
  | .dnw h t, s, Q => newC h (if t = true then .dcT [] [] else .dcK [] []) s fun a s1 => Q (.v (.d (.ref a))) s1
  | .dn1 h t k v, s, Q => wpE k s fun rk s1 => wpE v s1 fun rv s2 => ∃ x s3, froz rk s2 = some (x, s3) ∧ ∃ y s4, froz rv s3 = some (y, s4) ∧ dPut (if t = true then .dcT [] [] else .dcK [] []) x y fun z => newC h z s4 fun a s5 => Q (.v (.d (.ref a))) s5
  | .chc h m o as, s, Q => wpE o s fun ro s1 => isC ro h fun j => cellK h j s1 fun x0 => x0.isLst = true ∧ wpA as s1 fun rs s2 => ∃ ds s3, frozAll rs s2 = some (ds, s3) ∧ cellK h j s3 fun x => mutC m x ds fun z y => putC h j y s3 fun s4 => Q (.v (.d z)) s4
  | .clh x h f as, s, Q => wpA as s fun rs s1 => ∃ os, args rs s1 = some os ∧ (lent rs s1).Nodup ∧ regK h s1 fun M L => ∃ ns M1, pick M ns = some M1 ∧ ns.Nodup ∧ C f (os ++ [.h M1 (pickL L 0 ns)]) fun res fin => lastH fin fun fin1 M2 =>
      ∃ s2, back s1 rs fin1 (s1.set h (some (.h (merge M ns M2) L))) = some s2 ∧ if x = true then excTo res (fun c ds => X.ex c ds s2) (Q (.v res) s2) else Q (.v res) s2
  | .cmd h op a b, s, Q => wpE a s fun ra s1 => wpE b s1 fun rb s2 => deepR h ra s2 fun x => deepR h rb s2 fun y => cmpop op x y fun z => Q (.v (.d (.bl z))) s2
  | .nil, _, _ => False
  | .cons _ _, _, _ => False
  | .nop, _, _ => False
def wpT : E → St → (Bool → St → Prop) → Prop
  | .ite c a b, s, Q => wpT c s fun k s1 => if k = true then wpT a s1 Q else wpT b s1 Q
  | .cmp op a b, s, Q => wpE a s fun ra s1 => wpE b s1 fun rb s2 => ∃ x y, view ra s2 = some x ∧ view rb s2 = some y ∧ cmpop op x y fun z => Q z s2
  | .chn o1 o2 a b c, s, Q => wpE a s fun ra s1 => wpE b s1 fun rb s2 => ∃ x y, view ra s2 = some x ∧ view rb s2 = some y ∧ cmpop o1 x y fun z =>
      if z = true then wpE c s2 fun rc s3 => ∃ y' w, view rb s3 = some y' ∧ view rc s3 = some w ∧ cmpop o2 y' w fun z2 => Q z2 s3 else Q false s2
  | .and_ a b, s, Q => wpT a s fun c s1 => if c = true then wpT b s1 Q else Q false s1
  | .or_ a b, s, Q => wpT a s fun c s1 => if c = true then Q true s1 else wpT b s1 Q
  | .not_ a, s, Q => wpT a s fun c s1 => Q (!c) s1
  | .nop, s, Q => Q true s
  | .cst (.bl b), s, Q => Q b s
  | .fz _, _, _ => False
  | .cel _ _, _, _ => False
  | .cmd h op a b, s, Q => wpE a s fun ra s1 => wpE b s1 fun rb s2 => deepR h ra s2 fun x => deepR h rb s2 fun y => cmpop op x y fun z => Q z s2
  | e, s, Q => wpE e s fun r s1 => ∃ x, view r s1 = some x ∧ truth x fun k => Q k s1
def wpA : E → St → (List R → St → Prop) → Prop
  | .nil, s, Q => Q [] s
  | .cons a b, s, Q => wpE a s fun r s1 => wpA b s1 fun rs s2 => Q (r :: rs) s2
  | _, _, _ => False
def wpO : E → St → (Option Int → St → Prop) → Prop
  | .nop, s, Q => Q none s
  | e, s, Q => wpE e s fun r s1 => ∃ i, view r s1 = some (.int i) ∧ Q (some i) s1
end
def wpS : S → En → St → Prop
  | .skip, D, s => D.nx s
  | .seq a b, D, s => wpS a { D with nx := fun s1 => wpS b D s1 } s
  | .asg (.nm i) e, D, s => wpE C D.xc e s fun r s1 => ∃ o s2 s3, take r s1 = some (o, s2) ∧ put i o s2 = some s3 ∧ D.nx s3
  | .asg t e, D, s => wpE C D.xc e s fun r s1 => ∃ x s2 s3, froz r s1 = some (x, s2) ∧ setTg t x s2 = some s3 ∧ D.nx s3
  | .par i j a b, D, s => wpE C D.xc a s fun ra s1 => wpE C D.xc b s1 fun rb s2 => ∃ x y s3 s4, take ra s2 = some (x, s3) ∧ take rb s3 = some (y, s4) ∧ ∃ s5 s6, put i x s4 = some s5 ∧ put j y s5 = some s6 ∧ D.nx s6
  | .set o i e, D, s => wpE C D.xc e s fun r s1 => (∃ p xs, s1[o]? = some (some (.l p xs))) ∧ wpE C D.xc i s1 fun ri s2 => ∃ x s3, froz r s2 = some (x, s3) ∧ ∃ k p xs j, view ri s3 = some (.int k) ∧ s3[o]? = some (some (.l p xs)) ∧ L2.ixN xs.length k = some j ∧ D.nx (s3.set o (some (.l p (xs.set j x))))
  | .aug i op e, D, s => ∃ x, s[i]? = some (some (.d x)) ∧ wpE C D.xc e s fun r s1 => ∃ y, view r s1 = some y ∧ iop op x y fun z => ∃ s2, put i z s1 = some s2 ∧ D.nx s2
  | .augs o i op e, D, s => (∃ p xs, s[o]? = some (some (.l p xs))) ∧ wpE C D.xc i s fun ri s1 => ∃ k p xs x, view ri s1 = some (.int k) ∧ s1[o]? = some (some (.l p xs)) ∧ L2.atI xs k = some x ∧
      wpE C D.xc e s1 fun r s2 => ∃ y, view r s2 = some y ∧ iop op x y fun z => ∃ w p ys j, z = .d w ∧ s2[o]? = some (some (.l p ys)) ∧ L2.ixN ys.length k = some j ∧ D.nx (s2.set o (some (.l p (ys.set j w))))
  | .ex e, D, s => wpE C D.xc e s fun _ s1 => D.nx s1
  | .ite c a b, D, s => wpT C D.xc c s fun k s1 => if k = true then wpS a D s1 else wpS b D s1
  | .for_ t k as b, D, s => wpA C D.xc as s fun rs s1 => ∃ ds, viewAll rs s1 = some ds ∧ items k ds fun xs => forL t (fun D s => wpS b D s) (ulk rs s1) D xs (lk rs s1)
  | .while_ c b, D, s => ∃ W : Nat → St → Prop, (∃ m, W m s) ∧ ∀ m s, W m s → wpT C D.xc c s fun k s1 => if k = true then
      wpS b { D with nx := fun s2 => ∃ m', m' < m ∧ W m' s2, ct := fun s2 => ∃ m', m' < m ∧ W m' s2, bk := D.nx } s1 else D.nx s1
  | .ret e, D, s => wpE C D.xc e s D.rt
  | .retn, D, s => D.rt (.v (.d .non)) s
  | .brk, D, s => D.bk s
  | .cnt, D, s => D.ct s
  | .never, _, _ => False
  | .rse c as, D, s => wpA C D.xc as s fun rs s1 => ∃ xs, viewAll rs s1 = some xs ∧ xs.all Itp.D.isScal = true ∧ xs.length = (xFl c).length ∧ D.ex c xs s1
  | .try_ b h e, D, s => wpS b { D with nx := fun s1 => wpS e D s1, ex := fun c ds s1 => wpS h { D with hx := some (c, ds) } s1 } s
  | .hnd cs i b r, D, s => match D.hx with
    | some (c, ds) => if cs.any (xsub c) = true then (match i with
        | none => wpS b D.su s
        | some i => ∀ a d, putN i (.d (.xcp a (xdd ds d) c ds)) s fun s1 => wpS b (D.suA i a c (xdd ds d)) s1) else wpS r D s
    | none => False
  | .rer, D, s => match D.hx with
    | some (c, ds) => D.ex c ds s
    | none => False
  | .seth h o i e, D, s => wpE C D.xc e s fun r s1 => wpE C D.xc o s1 fun ro s2 => wpE C D.xc i s2 fun ri s3 => ∃ v s4, froz r s3 = some (v, s4) ∧ isC ro h fun j => ∃ k, view ri s4 = some k ∧ cellK h j s4 fun x => setC x k v fun y => putC h j y s4 D.nx
  | .augh h o i op e, D, s => wpE C D.xc o s fun ro s1 => wpE C D.xc i s1 fun ri s2 => isC ro h fun j => ∃ k, view ri s2 = some k ∧ cellK h j s2 fun x => index x k fun z =>
      wpE C D.xc e s2 fun r s3 => ∃ y, view r s3 = some y ∧ iop op z y fun w => ∃ wd, w = .d wd ∧ ∃ k', view ri s3 = some k' ∧ cellK h j s3 fun x' => setC x' k' wd fun x2 => putC h j x2 s3 D.nx
  | .root h b, D, s => putN h (.h [] []) s fun s1 => wpS b { D with nx := fun s2 => D.nx (s2.set h none), rt := fun r s2 => retC h r fun r => D.rt r (s2.set h none), bk := fun _ => False, ct := fun _ => False, ex := fun c ds s2 => D.ex c ds (s2.set h none) } s1
  | .rgn h b, D, s => wpS b { D with nx := fun s1 => shrink h (lenH h s) s1 D.nx, rt := fun r s1 => retC h r fun r => shrink h (lenH h s) s1 fun s2 => D.rt r s2, bk := fun _ => False, ct := fun _ => False, ex := fun c ds s1 => shrink h (lenH h s) s1 fun s2 => D.ex c ds s2 } s
  | .asgd i e, D, s => wpE C D.xc e s fun r s1 => ∃ x s2 s3, froz r s1 = some (x, s2) ∧ put i (.d x) s2 = some s3 ∧ D.nx s3
end
/-- a def: how many parameters, how many slots, its body -/
structure Fn where
  np : Nat
  nn : Nat
  body : S
  /-- it may raise -/
  rz : Bool
abbrev Tab := Str → Option Fn
def start (F : Fn) (os : List O) : St := os.map some ++ List.replicate (F.nn - F.np) none
def endsOf (F : Fn) (Q : O → List (Option O) → Prop) : En where
  nx := fun s => Q (.d .non) (s.take F.np)
  rt := fun r s => ∃ o s2, leave r s = some (o, s2) ∧ (F.rz = true → excOf o = none) ∧ Q o (s2.take F.np)
  ex := fun c ds s => F.rz = true ∧ Q (excO c ds) (s.take F.np)
/-- a call, of at most so many defs within one another -/
def call (T : Tab) : Nat → Ct
  | 0, _, _, _ => False
  | k + 1, f, os, Q => ∃ F, T f = some F ∧ os.length = F.np ∧ wpS (call T k) F.body (endsOf F Q) (start F os)
end Itp

namespace Itp
open PySem

/-! ### the operations, at a weaker end -/
theorem dGet_mono {x y : D} {Q Q' : Option D → Prop} (h : ∀ z, Q z → Q' z) (w : dGet x y Q) : dGet x y Q' := by
  unfold dGet at w ⊢
  split at w <;> first | exact w.elim | (obtain ⟨k, e, q⟩ := w; exact ⟨k, e, h _ q⟩)
theorem dPut_mono {x y v : D} {Q Q' : D → Prop} (h : ∀ z, Q z → Q' z) (w : dPut x y v Q) : dPut x y v Q' := by
  unfold dPut at w ⊢
  split at w <;> first | exact w.elim | (obtain ⟨k, e, l, q⟩ := w; exact ⟨k, e, l, h _ q⟩)
theorem binop_mono {op : Operator} {x y : D} {Q Q' : O → Prop} (h : ∀ z, Q z → Q' z) (w : binop op x y Q) : binop op x y Q' := by
  unfold binop at w ⊢
  split at w <;> first | exact w.elim | exact h _ w | exact ⟨w.1, h _ w.2⟩
theorem iop_mono {op : Operator} {x y : D} {Q Q' : O → Prop} (h : ∀ z, Q z → Q' z) (w : iop op x y Q) : iop op x y Q' := by
  unfold iop at w ⊢
  split at w <;> first | exact w.elim | exact h _ w | exact ⟨w.1, h _ w.2⟩
theorem cmpop_mono {op : CmpOp} {x y : D} {Q Q' : Bool → Prop} (h : ∀ z, Q z → Q' z) (w : cmpop op x y Q) : cmpop op x y Q' := by
  unfold cmpop at w ⊢
  split at w <;> first | exact w.elim | exact h _ w | exact dGet_mono (fun o q => h _ q) w | exact ⟨w.1, h _ w.2⟩ | exact ⟨w.1, w.2.1, h _ w.2.2⟩ | (obtain ⟨c, e, q⟩ := w; exact ⟨c, e, h _ q⟩)
theorem truth_mono {x : D} {Q Q' : Bool → Prop} (h : ∀ z, Q z → Q' z) (w : truth x Q) : truth x Q' := by
  unfold truth at w ⊢
  split at w <;> first | exact w.elim | exact h _ w | exact ⟨w.1, h _ w.2⟩
theorem index_mono {x y : D} {Q Q' : D → Prop} (h : ∀ z, Q z → Q' z) (w : index x y Q) : index x y Q' := by
  unfold index at w ⊢
  split at w <;> first | exact w.elim | exact dGet_mono (fun o ⟨z, e, q⟩ => ⟨z, e, h _ q⟩) w | (obtain ⟨z, e, q⟩ := w; exact ⟨z, e, h _ q⟩) | (obtain ⟨l, z, e, q⟩ := w; exact ⟨l, z, e, h _ q⟩)
theorem slice_mono {x : D} {lo hi : Option Int} {Q Q' : O → Prop} (h : ∀ z, Q z → Q' z) (w : slice x lo hi Q) : slice x lo hi Q' := by
  unfold slice at w ⊢
  split at w <;> first | exact w.elim | exact h _ w | exact ⟨w.1, h _ w.2⟩
theorem bltin_mono {b : B} {xs : List D} {Q Q' : O → Prop} (h : ∀ z, Q z → Q' z) (w : bltin b xs Q) : bltin b xs Q' := by
  unfold bltin at w ⊢
  split at w <;> first | exact w.elim | exact h _ w | exact ⟨w.1, h _ w.2⟩ | exact ⟨w.1, w.2.1, w.2.2.1, w.2.2.2.1, h _ w.2.2.2.2⟩ | (obtain ⟨ns, e, p, q⟩ := w; exact ⟨ns, e, p, fun m a b => h _ (q m a b)⟩) | (obtain ⟨ns, e, q⟩ := w; exact ⟨ns, e, h _ q⟩)
theorem meth_mono {m : MP} {x : D} {as : List D} {Q Q' : O → Prop} (h : ∀ z, Q z → Q' z) (w : meth m x as Q) : meth m x as Q' := by
  cases m with
  | join =>
    simp only [meth] at w ⊢
    unfold methJ at w ⊢
    split at w <;> first | exact w.elim | (obtain ⟨ys, e, l, q⟩ := w; exact ⟨ys, e, l, h _ q⟩)
  | index =>
    simp only [meth] at w ⊢
    unfold methI at w ⊢
    split at w <;> first | exact w.elim | (obtain ⟨ys, e, l, q⟩ := w; exact ⟨ys, e, l, h _ q⟩) | (obtain ⟨o1, o2, j, z, e1, e2, e3, q⟩ := w; exact ⟨o1, o2, j, z, e1, e2, e3, h _ q⟩)
  | count =>
    simp only [meth] at w ⊢
    unfold methC at w ⊢
    split at w <;> first | exact w.elim | exact h _ w
  | get =>
    simp only [meth] at w ⊢
    unfold methG at w ⊢
    split at w <;> first | exact w.elim | exact dGet_mono (fun o q => h _ q) w
theorem muta_mono {m : MU} {xs as : List D} {Q Q' : D → List D → Prop} (h : ∀ z ys, Q z ys → Q' z ys) (w : muta m xs as Q) : muta m xs as Q' := by
  unfold muta at w ⊢
  split at w <;> first | exact w.elim | exact h _ _ w | exact ⟨w.1, h _ _ w.2⟩ | exact ⟨w.1, w.2.1, h _ _ w.2.2⟩ | (obtain ⟨x, e, q⟩ := w; exact ⟨x, e, h _ _ q⟩) | (obtain ⟨b, k, x, e, f, q⟩ := w; exact ⟨b, k, x, e, f, h _ _ q⟩)
theorem mutC_mono {m : MU} {x : D} {as : List D} {Q Q' : D → D → Prop} (h : ∀ z ys, Q z ys → Q' z ys) (w : mutC m x as Q) : mutC m x as Q' := by
  unfold mutC at w ⊢
  split at w <;> first | exact w.elim | exact muta_mono (fun z ys q => h _ _ q) w
theorem setC_mono {x i v : D} {Q Q' : D → Prop} (h : ∀ z, Q z → Q' z) (w : setC x i v Q) : setC x i v Q' := by
  unfold setC at w ⊢
  split at w <;> first | exact w.elim | exact dPut_mono h w | skip
  split at w <;> first | exact w.elim | (obtain ⟨j, e, q⟩ := w; exact ⟨j, e, h _ q⟩)
theorem regK_mono {i : Nat} {s : St} {Q Q' : List (Addr × D) → List Nat → Prop} (h : ∀ M L, Q M L → Q' M L) (w : regK i s Q) : regK i s Q' := by
  unfold regK at w ⊢
  split at w <;> first | exact w.elim | exact h _ _ w
theorem setK_mono {i : Nat} {s : St} {o : Option O} {Q Q' : St → Prop} (h : ∀ s, Q s → Q' s) (w : setK s i o Q) : setK s i o Q' := by
  rw [setK_eq] at w ⊢; exact h _ w
theorem newC_mono {i : Nat} {x : D} {s : St} {Q Q' : Addr → St → Prop} (h : ∀ a s, Q a s → Q' a s) (w : newC i x s Q) : newC i x s Q' := regK_mono (fun M L w a => setK_mono (fun s q => h a s q) (w a)) w
theorem putC_mono {i j : Nat} {x : D} {s : St} {Q Q' : St → Prop} (h : ∀ s, Q s → Q' s) (w : putC i j x s Q) : putC i j x s Q' := regK_mono (fun M L w => by
  split at w <;> first | exact w.elim | exact ⟨w.1, setK_mono h w.2⟩) w
theorem atR_mono {i : Nat} {r : R} {s : St} {Q Q' : R → St → Prop} (h : ∀ r s, Q r s → Q' r s) (w : atR i r s Q) : atR i r s Q' := by
  unfold atR at w ⊢
  split at w <;> first | exact h _ _ w | (obtain ⟨j, x, e, q⟩ := w; exact ⟨j, x, e, h _ _ q⟩)
theorem celR_mono {i : Nat} {r : R} {s : St} {Q Q' : R → St → Prop} (h : ∀ r s, Q r s → Q' r s) (w : celR i r s Q) : celR i r s Q' := by
  unfold celR at w ⊢
  split at w <;> first | exact newC_mono (fun a s q => h _ _ q) w | exact w.elim | skip
  split at w <;> first | exact w.elim | exact setK_mono (fun s w => newC_mono (fun a s w => setK_mono (fun s q => h _ _ q) w) w) w
theorem isC_mono {i : Nat} {r : R} {Q Q' : Nat → Prop} (h : ∀ j, Q j → Q' j) (w : isC r i Q) : isC r i Q' := by
  unfold isC at w ⊢
  split at w <;> first | exact w.elim | exact ⟨w.1, h _ w.2⟩
theorem cellK_mono {i j : Nat} {s : St} {Q Q' : D → Prop} (h : ∀ x, Q x → Q' x) (w : cellK i j s Q) : cellK i j s Q' := by
  unfold cellK at w ⊢
  split at w <;> first | exact w.elim | exact h _ w
theorem lastH_mono : ∀ {l : List (Option O)} {Q Q' : List (Option O) → List (Addr × D) → Prop}, (∀ l M, Q l M → Q' l M) → lastH l Q → lastH l Q' := by
  intro l
  induction l with
  | nil => intro Q Q' h w; simp only [lastH] at w
  | cons o os ih =>
    intro Q Q' h w
    cases os with
    | nil =>
      simp only [lastH] at w ⊢
      split at w <;> first | exact w.elim | exact h _ _ w
    | cons o2 os =>
      have w : lastH (o2 :: os) fun os' M => Q (o :: os') M := w
      show lastH (o2 :: os) fun os' M => Q' (o :: os') M
      exact ih (fun l M q => h _ _ q) w
theorem deepR_mono {i : Nat} {r : R} {s : St} {Q Q' : D → Prop} (h : ∀ x, Q x → Q' x) (w : deepR i r s Q) : deepR i r s Q' := regK_mono (fun M L ⟨x0, x, e, d, q⟩ => ⟨x0, x, e, d, h _ q⟩) w
theorem shrink_mono {i n : Nat} {s : St} {Q Q' : St → Prop} (h : ∀ s, Q s → Q' s) (w : shrink i n s Q) : shrink i n s Q' := regK_mono (fun M L ⟨ns, W, e, nd, q⟩ => ⟨ns, W, e, nd, setK_mono h q⟩) w
theorem retC_mono {i : Nat} {r : R} {K K' : R → Prop} (h : ∀ r, K r → K' r) (w : retC i r K) : retC i r K' := by
  unfold retC at w ⊢
  split at w <;> first | exact h _ w | exact ⟨w.1, h _ w.2⟩
theorem isTy_mono {x : D} {t : String} {Q Q' : Bool → Prop} (h : ∀ z, Q z → Q' z) (w : isTy x t Q) : isTy x t Q' := by
  unfold isTy at w ⊢
  split at w <;> first | exact w.elim | exact h _ w
theorem items_mono {k : Src} {xs : List D} {Q Q' : List D → Prop} (h : ∀ z, Q z → Q' z) (w : items k xs Q) : items k xs Q' := by
  unfold items at w ⊢
  split at w <;> first | exact w.elim | exact h _ w | exact ⟨w.1, h _ w.2⟩ | exact ⟨w.1, w.2.1, h _ w.2.2⟩

theorem compL_mono {t : Tg} {own : List Nat} {s0 : St} {cond cond' : St → (Bool → St → Prop) → Prop} {elt elt' : St → (R → St → Prop) → Prop} {ul : St → St} {Q Q' : R → St → Prop}
    (hc : ∀ s Q Q', (∀ b s, Q b s → Q' b s) → cond s Q → cond' s Q') (he : ∀ s Q Q', (∀ b s, Q b s → Q' b s) → elt s Q → elt' s Q') (h : ∀ r s, Q r s → Q' r s) :
    ∀ xs acc s, compL t own s0 cond elt ul Q xs acc s → compL t own s0 cond' elt' ul Q' xs acc s
  | [], acc, s, w => by unfold compL at *; exact h _ _ w
  | x :: xs, acc, s, w => by
    unfold compL at *
    obtain ⟨s1, e, w⟩ := w
    refine ⟨s1, e, hc _ _ _ (fun b s2 w => ?_) w⟩
    cases b with
    | true =>
      rw [if_pos rfl] at *
      refine he _ _ _ (fun r s3 w => ?_) w
      obtain ⟨d, s4, e, l, w⟩ := w
      exact ⟨d, s4, e, l, compL_mono hc he h xs _ _ w⟩
    | false =>
      rw [if_neg Bool.false_ne_true] at *
      exact compL_mono hc he h xs _ _ w

/-- what an exception meets, weaker -/
structure Xc.Le (X X' : Xc) : Prop where
  ex : ∀ c ds s, X.ex c ds s → X'.ex c ds s
  cur : X.cur = X'.cur
theorem Xc.Le.rfl {X : Xc} : Xc.Le X X := ⟨fun _ _ _ q => q, Eq.refl _⟩
theorem excTo_mono {res : O} {f f' : Nat → List D → Prop} {g g' : Prop} (h : ∀ c ds, f c ds → f' c ds) (hg : g → g') (w : excTo res f g) : excTo res f' g' := by
  unfold excTo at w ⊢
  split at w
  · exact h _ _ w
  · exact hg w
theorem isXc_mono {X X' : Xc} (hX : Xc.Le X X') {x : D} {cs : List Nat} {Q Q' : Bool → Prop} (h : ∀ z, Q z → Q' z) (w : isXc X x cs Q) : isXc X' x cs Q' := by
  unfold isXc at w ⊢
  split at w
  · exact ⟨hX.cur.symm.trans w.1, h _ w.2⟩
  · exact w.elim
theorem atXc_mono {X X' : Xc} (hX : Xc.Le X X') {x : D} {f : Nat} {Q Q' : D → Prop} (h : ∀ z, Q z → Q' z) (w : atXc X x f Q) : atXc X' x f Q' := by
  unfold atXc at w ⊢
  split at w
  · obtain ⟨e, z, e1, q⟩ := w
    exact ⟨hX.cur.symm.trans e, z, e1, h _ q⟩
  · exact w.elim
/-- a call, at a weaker end -/
def CtMono (C : Ct) : Prop := ∀ f os (Q Q' : O → List (Option O) → Prop), (∀ r l, Q r l → Q' r l) → C f os Q → C f os Q'
section
variable {C : Ct} (hC : CtMono C) {X X' : Xc} (hX : Xc.Le X X')
include hC
section
include hX
/-- all four at once -/
theorem wp_mono : ∀ e : E, (∀ s (Q Q' : R → St → Prop), (∀ r s, Q r s → Q' r s) → wpE C X e s Q → wpE C X' e s Q') ∧ (∀ s (Q Q' : Bool → St → Prop), (∀ r s, Q r s → Q' r s) → wpT C X e s Q → wpT C X' e s Q') ∧
    (∀ s (Q Q' : List R → St → Prop), (∀ r s, Q r s → Q' r s) → wpA C X e s Q → wpA C X' e s Q') ∧ (∀ s (Q Q' : Option Int → St → Prop), (∀ r s, Q r s → Q' r s) → wpO C X e s Q → wpO C X' e s Q') := by
  -- the default forms of a test, of a bound
  have dT : ∀ e : E, (∀ s (Q Q' : R → St → Prop), (∀ r s, Q r s → Q' r s) → wpE C X e s Q → wpE C X' e s Q') → ∀ s (Q Q' : Bool → St → Prop), (∀ r s, Q r s → Q' r s) →
      (wpE C X e s fun r s1 => ∃ x, view r s1 = some x ∧ truth x fun k => Q k s1) → wpE C X' e s fun r s1 => ∃ x, view r s1 = some x ∧ truth x fun k => Q' k s1 := by
    intro e he s Q Q' h w
    exact he _ _ _ (fun r s1 ⟨x, a, b⟩ => ⟨x, a, truth_mono (fun k q => h _ _ q) b⟩) w
  have dO : ∀ e : E, (∀ s (Q Q' : R → St → Prop), (∀ r s, Q r s → Q' r s) → wpE C X e s Q → wpE C X' e s Q') → ∀ s (Q Q' : Option Int → St → Prop), (∀ r s, Q r s → Q' r s) →
      (wpE C X e s fun r s1 => ∃ i, view r s1 = some (.int i) ∧ Q (some i) s1) → wpE C X' e s fun r s1 => ∃ i, view r s1 = some (.int i) ∧ Q' (some i) s1 := by
    intro e he s Q Q' h w
    exact he _ _ _ (fun r s1 ⟨x, a, b⟩ => ⟨x, a, h _ _ b⟩) w
  intro e
  induction e with
  | nil => exact ⟨fun _ _ _ _ w => by simp only [wpE] at w, fun _ _ _ _ w => by simp only [wpT, wpE] at w; first | exact w.elim | done, fun _ _ _ h w => by simp only [wpA] at w ⊢; exact h _ _ w, fun _ _ _ _ w => by simp only [wpO, wpE] at w; first | exact w.elim | done⟩
  | nop => exact ⟨fun _ _ _ _ w => by simp only [wpE] at w, fun _ _ _ h w => by simp only [wpT] at w ⊢; exact h _ _ w, fun _ _ _ h w => by simp only [wpA] at w; first | exact w.elim | done, fun _ _ _ h w => by simp only [wpO] at w ⊢; exact h _ _ w⟩
  | cons a b iha ihb =>
    refine ⟨fun _ _ _ _ w => by simp only [wpE] at w, fun _ _ _ _ w => by simp only [wpT, wpE] at w; first | exact w.elim | done, fun _ _ _ h w => ?_, fun _ _ _ _ w => by simp only [wpO, wpE] at w; first | exact w.elim | done⟩
    simp only [wpA] at w ⊢
    exact iha.1 _ _ _ (fun r s1 w => ihb.2.2.1 _ _ _ (fun rs s2 w => h _ _ w) w) w
  | var i =>
    have he : ∀ s (Q Q' : R → St → Prop), (∀ r s, Q r s → Q' r s) → wpE C X (.var i) s Q → wpE C X' (.var i) s Q' := by
      intro s Q Q' h w
      simp only [wpE] at w ⊢
      split at w <;> simp_all
    exact ⟨he, fun s Q Q' h w => by simp only [wpT] at w ⊢; exact dT _ he s Q Q' h w, fun _ _ _ h w => by simp only [wpA] at w; first | exact w.elim | done, fun s Q Q' h w => by simp only [wpO] at w ⊢; exact dO _ he s Q Q' h w⟩
  | cst x =>
    have he : ∀ s (Q Q' : R → St → Prop), (∀ r s, Q r s → Q' r s) → wpE C X (.cst x) s Q → wpE C X' (.cst x) s Q' := by
      intro s Q Q' h w
      simp only [wpE] at w ⊢
      exact h _ _ w
    refine ⟨he, fun s Q Q' h w => ?_, fun _ _ _ h w => by simp only [wpA] at w; first | exact w.elim | done, fun s Q Q' h w => by simp only [wpO] at w ⊢; exact dO _ he s Q Q' h w⟩
    cases x <;> (simp only [wpT] at w ⊢) <;> first | exact h _ _ w | exact dT _ he s Q Q' h w
  | bin op a b iha ihb =>
    have he : ∀ s (Q Q' : R → St → Prop), (∀ r s, Q r s → Q' r s) → wpE C X (.bin op a b) s Q → wpE C X' (.bin op a b) s Q' := by
      intro s Q Q' h w
      simp only [wpE] at w ⊢
      exact iha.1 _ _ _ (fun r s1 w => ihb.1 _ _ _ (fun rs s2 ⟨x, y, e1, e2, w⟩ => ⟨x, y, e1, e2, binop_mono (fun z q => h _ _ q) w⟩) w) w
    exact ⟨he, fun s Q Q' h w => by simp only [wpT] at w ⊢; exact dT _ he s Q Q' h w, fun _ _ _ h w => by simp only [wpA] at w; first | exact w.elim | done, fun s Q Q' h w => by simp only [wpO] at w ⊢; exact dO _ he s Q Q' h w⟩
  | neg a iha =>
    have he : ∀ s (Q Q' : R → St → Prop), (∀ r s, Q r s → Q' r s) → wpE C X (.neg a) s Q → wpE C X' (.neg a) s Q' := by
      intro s Q Q' h w
      simp only [wpE] at w ⊢
      exact iha.1 _ _ _ (fun r s1 ⟨i, e, w⟩ => ⟨i, e, h _ _ w⟩) w
    exact ⟨he, fun s Q Q' h w => by simp only [wpT] at w ⊢; exact dT _ he s Q Q' h w, fun _ _ _ h w => by simp only [wpA] at w; first | exact w.elim | done, fun s Q Q' h w => by simp only [wpO] at w ⊢; exact dO _ he s Q Q' h w⟩
  | not_ a iha =>
    have he : ∀ s (Q Q' : R → St → Prop), (∀ r s, Q r s → Q' r s) → wpE C X (.not_ a) s Q → wpE C X' (.not_ a) s Q' := by
      intro s Q Q' h w
      simp only [wpE] at w ⊢
      exact iha.1 _ _ _ (fun r s1 ⟨i, e, w⟩ => ⟨i, e, h _ _ w⟩) w
    exact ⟨he, fun s Q Q' h w => by simp only [wpT] at w ⊢; exact iha.2.1 _ _ _ (fun r s1 w => h _ _ w) w, fun _ _ _ h w => by simp only [wpA] at w; first | exact w.elim | done, fun s Q Q' h w => by simp only [wpO] at w ⊢; exact dO _ he s Q Q' h w⟩
  | cmp op a b iha ihb =>
    have he : ∀ s (Q Q' : R → St → Prop), (∀ r s, Q r s → Q' r s) → wpE C X (.cmp op a b) s Q → wpE C X' (.cmp op a b) s Q' := by
      intro s Q Q' h w
      simp only [wpE] at w ⊢
      exact iha.1 _ _ _ (fun r s1 w => ihb.1 _ _ _ (fun rs s2 ⟨x, y, e1, e2, w⟩ => ⟨x, y, e1, e2, cmpop_mono (fun z q => h _ _ q) w⟩) w) w
    refine ⟨he, fun s Q Q' h w => ?_, fun _ _ _ h w => by simp only [wpA] at w; first | exact w.elim | done, fun s Q Q' h w => by simp only [wpO] at w ⊢; exact dO _ he s Q Q' h w⟩
    simp only [wpT] at w ⊢
    exact iha.1 _ _ _ (fun r s1 w => ihb.1 _ _ _ (fun rs s2 ⟨x, y, e1, e2, w⟩ => ⟨x, y, e1, e2, cmpop_mono (fun z q => h _ _ q) w⟩) w) w
  | chn o1 o2 a b c iha ihb ihc =>
    have he : ∀ s (Q Q' : R → St → Prop), (∀ r s, Q r s → Q' r s) → wpE C X (.chn o1 o2 a b c) s Q → wpE C X' (.chn o1 o2 a b c) s Q' := by
      intro s Q Q' h w
      simp only [wpE] at w ⊢
      refine iha.1 _ _ _ (fun r s1 w => ihb.1 _ _ _ (fun rs s2 ⟨x, y, e1, e2, w⟩ => ⟨x, y, e1, e2, cmpop_mono (fun z q => ?_) w⟩) w) w
      cases z with
      | true => rw [if_pos rfl] at q ⊢; exact ihc.1 _ _ _ (fun rc s3 ⟨y', w', e1, e2, w⟩ => ⟨y', w', e1, e2, cmpop_mono (fun z q => h _ _ q) w⟩) q
      | false => rw [if_neg Bool.false_ne_true] at q ⊢; exact h _ _ q
    refine ⟨he, fun s Q Q' h w => ?_, fun _ _ _ h w => by simp only [wpA] at w; first | exact w.elim | done, fun s Q Q' h w => by simp only [wpO] at w ⊢; exact dO _ he s Q Q' h w⟩
    simp only [wpT] at w ⊢
    refine iha.1 _ _ _ (fun r s1 w => ihb.1 _ _ _ (fun rs s2 ⟨x, y, e1, e2, w⟩ => ⟨x, y, e1, e2, cmpop_mono (fun z q => ?_) w⟩) w) w
    cases z with
    | true => rw [if_pos rfl] at q ⊢; exact ihc.1 _ _ _ (fun rc s3 ⟨y', w', e1, e2, w⟩ => ⟨y', w', e1, e2, cmpop_mono (fun z q => h _ _ q) w⟩) q
    | false => rw [if_neg Bool.false_ne_true] at q ⊢; exact h _ _ q
  | and_ a b iha ihb =>
    have he : ∀ s (Q Q' : R → St → Prop), (∀ r s, Q r s → Q' r s) → wpE C X (.and_ a b) s Q → wpE C X' (.and_ a b) s Q' := by
      intro s Q Q' h w
      simp only [wpE] at w ⊢
      refine iha.1 _ _ _ (fun r s1 ⟨c, e, w⟩ => ⟨c, e, ?_⟩) w
      cases c with
      | true => rw [if_pos rfl] at w ⊢; exact ihb.1 _ _ _ h w
      | false => rw [if_neg Bool.false_ne_true] at w ⊢; exact h _ _ w
    refine ⟨he, fun s Q Q' h w => ?_, fun _ _ _ h w => by simp only [wpA] at w; first | exact w.elim | done, fun s Q Q' h w => by simp only [wpO] at w ⊢; exact dO _ he s Q Q' h w⟩
    simp only [wpT] at w ⊢
    refine iha.2.1 _ _ _ (fun c s1 w => ?_) w
    cases c with
    | true => rw [if_pos rfl] at w ⊢; exact ihb.2.1 _ _ _ h w
    | false => rw [if_neg Bool.false_ne_true] at w ⊢; exact h _ _ w
  | or_ a b iha ihb =>
    have he : ∀ s (Q Q' : R → St → Prop), (∀ r s, Q r s → Q' r s) → wpE C X (.or_ a b) s Q → wpE C X' (.or_ a b) s Q' := by
      intro s Q Q' h w
      simp only [wpE] at w ⊢
      refine iha.1 _ _ _ (fun r s1 ⟨c, e, w⟩ => ⟨c, e, ?_⟩) w
      cases c with
      | true => rw [if_pos rfl] at w ⊢; exact h _ _ w
      | false => rw [if_neg Bool.false_ne_true] at w ⊢; exact ihb.1 _ _ _ h w
    refine ⟨he, fun s Q Q' h w => ?_, fun _ _ _ h w => by simp only [wpA] at w; first | exact w.elim | done, fun s Q Q' h w => by simp only [wpO] at w ⊢; exact dO _ he s Q Q' h w⟩
    simp only [wpT] at w ⊢
    refine iha.2.1 _ _ _ (fun c s1 w => ?_) w
    cases c with
    | true => rw [if_pos rfl] at w ⊢; exact h _ _ w
    | false => rw [if_neg Bool.false_ne_true] at w ⊢; exact ihb.2.1 _ _ _ h w
  | ite c a b ihc iha ihb =>
    have he : ∀ s (Q Q' : R → St → Prop), (∀ r s, Q r s → Q' r s) → wpE C X (.ite c a b) s Q → wpE C X' (.ite c a b) s Q' := by
      intro s Q Q' h w
      simp only [wpE] at w ⊢
      refine ihc.2.1 _ _ _ (fun k s1 w => ?_) w
      cases k with
      | true => rw [if_pos rfl] at w ⊢; exact iha.1 _ _ _ h w
      | false => rw [if_neg Bool.false_ne_true] at w ⊢; exact ihb.1 _ _ _ h w
    refine ⟨he, fun s Q Q' h w => ?_, fun _ _ _ h w => by simp only [wpA] at w, fun s Q Q' h w => by simp only [wpO] at w ⊢; exact dO _ he s Q Q' h w⟩
    simp only [wpT] at w ⊢
    refine ihc.2.1 _ _ _ (fun k s1 w => ?_) w
    cases k with
    | true => rw [if_pos rfl] at w ⊢; exact iha.2.1 _ _ _ h w
    | false => rw [if_neg Bool.false_ne_true] at w ⊢; exact ihb.2.1 _ _ _ h w
  | tup as ih =>
    have he : ∀ s (Q Q' : R → St → Prop), (∀ r s, Q r s → Q' r s) → wpE C X (.tup as) s Q → wpE C X' (.tup as) s Q' := by
      intro s Q Q' h w
      simp only [wpE] at w ⊢
      exact ih.2.2.1 _ _ _ (fun r s1 ⟨x, s2, e, l, w⟩ => ⟨x, s2, e, l, h _ _ w⟩) w
    exact ⟨he, fun s Q Q' h w => by simp only [wpT] at w ⊢; exact dT _ he s Q Q' h w, fun _ _ _ h w => by simp only [wpA] at w; first | exact w.elim | done, fun s Q Q' h w => by simp only [wpO] at w ⊢; exact dO _ he s Q Q' h w⟩
  | lst as ih =>
    have he : ∀ s (Q Q' : R → St → Prop), (∀ r s, Q r s → Q' r s) → wpE C X (.lst as) s Q → wpE C X' (.lst as) s Q' := by
      intro s Q Q' h w
      simp only [wpE] at w ⊢
      exact ih.2.2.1 _ _ _ (fun r s1 ⟨x, s2, e, l, w⟩ => ⟨x, s2, e, l, h _ _ w⟩) w
    exact ⟨he, fun s Q Q' h w => by simp only [wpT] at w ⊢; exact dT _ he s Q Q' h w, fun _ _ _ h w => by simp only [wpA] at w; first | exact w.elim | done, fun s Q Q' h w => by simp only [wpO] at w ⊢; exact dO _ he s Q Q' h w⟩
  | idx a b iha ihb =>
    have he : ∀ s (Q Q' : R → St → Prop), (∀ r s, Q r s → Q' r s) → wpE C X (.idx a b) s Q → wpE C X' (.idx a b) s Q' := by
      intro s Q Q' h w
      simp only [wpE] at w ⊢
      exact iha.1 _ _ _ (fun r s1 w => ihb.1 _ _ _ (fun rs s2 ⟨x, y, e1, e2, w⟩ => ⟨x, y, e1, e2, index_mono (fun z q => h _ _ q) w⟩) w) w
    exact ⟨he, fun s Q Q' h w => by simp only [wpT] at w ⊢; exact dT _ he s Q Q' h w, fun _ _ _ h w => by simp only [wpA] at w; first | exact w.elim | done, fun s Q Q' h w => by simp only [wpO] at w ⊢; exact dO _ he s Q Q' h w⟩
  | slc a lo hi iha ihl ihh =>
    have he : ∀ s (Q Q' : R → St → Prop), (∀ r s, Q r s → Q' r s) → wpE C X (.slc a lo hi) s Q → wpE C X' (.slc a lo hi) s Q' := by
      intro s Q Q' h w
      simp only [wpE] at w ⊢
      exact iha.1 _ _ _ (fun r s1 w => ihl.2.2.2 _ _ _ (fun l s2 w => ihh.2.2.2 _ _ _ (fun u s3 ⟨x, e1, w⟩ => ⟨x, e1, slice_mono (fun z q => h _ _ q) w⟩) w) w) w
    exact ⟨he, fun s Q Q' h w => by simp only [wpT] at w ⊢; exact dT _ he s Q Q' h w, fun _ _ _ h w => by simp only [wpA] at w; first | exact w.elim | done, fun s Q Q' h w => by simp only [wpO] at w ⊢; exact dO _ he s Q Q' h w⟩
  | rv a iha =>
    have he : ∀ s (Q Q' : R → St → Prop), (∀ r s, Q r s → Q' r s) → wpE C X (.rv a) s Q → wpE C X' (.rv a) s Q' := by
      intro s Q Q' h w
      simp only [wpE] at w ⊢
      exact iha.1 _ _ _ (fun r s1 ⟨i, e, w⟩ => ⟨i, e, h _ _ w⟩) w
    exact ⟨he, fun s Q Q' h w => by simp only [wpT] at w ⊢; exact dT _ he s Q Q' h w, fun _ _ _ h w => by simp only [wpA] at w; first | exact w.elim | done, fun s Q Q' h w => by simp only [wpO] at w ⊢; exact dO _ he s Q Q' h w⟩
  | call f as ih =>
    have he : ∀ s (Q Q' : R → St → Prop), (∀ r s, Q r s → Q' r s) → wpE C X (.call f as) s Q → wpE C X' (.call f as) s Q' := by
      intro s Q Q' h w
      simp only [wpE] at w ⊢
      exact ih.2.2.1 _ _ _ (fun r s1 ⟨os, e, n, w⟩ => ⟨os, e, n, hC _ _ _ _ (fun res fin ⟨s2, e2, q⟩ => ⟨s2, e2, h _ _ q⟩) w⟩) w
    exact ⟨he, fun s Q Q' h w => by simp only [wpT] at w ⊢; exact dT _ he s Q Q' h w, fun _ _ _ h w => by simp only [wpA] at w; first | exact w.elim | done, fun s Q Q' h w => by simp only [wpO] at w ⊢; exact dO _ he s Q Q' h w⟩
  | blt b as ih =>
    have he : ∀ s (Q Q' : R → St → Prop), (∀ r s, Q r s → Q' r s) → wpE C X (.blt b as) s Q → wpE C X' (.blt b as) s Q' := by
      intro s Q Q' h w
      simp only [wpE] at w ⊢
      exact ih.2.2.1 _ _ _ (fun r s1 ⟨xs, e, w⟩ => ⟨xs, e, bltin_mono (fun z q => h _ _ q) w⟩) w
    exact ⟨he, fun s Q Q' h w => by simp only [wpT] at w ⊢; exact dT _ he s Q Q' h w, fun _ _ _ h w => by simp only [wpA] at w; first | exact w.elim | done, fun s Q Q' h w => by simp only [wpO] at w ⊢; exact dO _ he s Q Q' h w⟩
  | isi a t iha =>
    have he : ∀ s (Q Q' : R → St → Prop), (∀ r s, Q r s → Q' r s) → wpE C X (.isi a t) s Q → wpE C X' (.isi a t) s Q' := by
      intro s Q Q' h w
      simp only [wpE] at w ⊢
      exact iha.1 _ _ _ (fun r s1 ⟨i, e, w⟩ => ⟨i, e, isTy_mono (fun z q => h _ _ q) w⟩) w
    exact ⟨he, fun s Q Q' h w => by simp only [wpT] at w ⊢; exact dT _ he s Q Q' h w, fun _ _ _ h w => by simp only [wpA] at w; first | exact w.elim | done, fun s Q Q' h w => by simp only [wpO] at w ⊢; exact dO _ he s Q Q' h w⟩
  | mth m o as iho ih =>
    have he : ∀ s (Q Q' : R → St → Prop), (∀ r s, Q r s → Q' r s) → wpE C X (.mth m o as) s Q → wpE C X' (.mth m o as) s Q' := by
      intro s Q Q' h w
      simp only [wpE] at w ⊢
      exact iho.1 _ _ _ (fun r s1 ⟨x0, e0, rc, w⟩ => ⟨x0, e0, rc, ih.2.2.1 _ _ _ (fun rs s2 ⟨x, y, e1, e2, w⟩ => ⟨x, y, e1, e2, meth_mono (fun z q => h _ _ q) w⟩) w⟩) w
    exact ⟨he, fun s Q Q' h w => by simp only [wpT] at w ⊢; exact dT _ he s Q Q' h w, fun _ _ _ h w => by simp only [wpA] at w; first | exact w.elim | done, fun s Q Q' h w => by simp only [wpO] at w ⊢; exact dO _ he s Q Q' h w⟩
  | chg m i as ih =>
    have he : ∀ s (Q Q' : R → St → Prop), (∀ r s, Q r s → Q' r s) → wpE C X (.chg m i as) s Q → wpE C X' (.chg m i as) s Q' := by
      intro s Q Q' h w
      simp only [wpE] at w ⊢
      exact ⟨w.1, ih.2.2.1 _ _ _ (fun r s1 ⟨ds, s2, e, p, xs, e2, w⟩ => ⟨ds, s2, e, p, xs, e2, muta_mono (fun z ys q => h _ _ q) w⟩) w.2⟩
    exact ⟨he, fun s Q Q' h w => by simp only [wpT] at w ⊢; exact dT _ he s Q Q' h w, fun _ _ _ h w => by simp only [wpA] at w; first | exact w.elim | done, fun s Q Q' h w => by simp only [wpO] at w ⊢; exact dO _ he s Q Q' h w⟩
  | srt a iha =>
    have he : ∀ s (Q Q' : R → St → Prop), (∀ r s, Q r s → Q' r s) → wpE C X (.srt a) s Q → wpE C X' (.srt a) s Q' := by
      intro s Q Q' h w
      simp only [wpE] at w ⊢
      exact iha.1 _ _ _ (fun r s1 ⟨xs, e, ok, w⟩ => ⟨xs, e, ok, h _ _ w⟩) w
    exact ⟨he, fun s Q Q' h w => by simp only [wpT] at w ⊢; exact dT _ he s Q Q' h w, fun _ _ _ h w => by simp only [wpA] at w; first | exact w.elim | done, fun s Q Q' h w => by simp only [wpO] at w ⊢; exact dO _ he s Q Q' h w⟩
  | srr a iha =>
    have he : ∀ s (Q Q' : R → St → Prop), (∀ r s, Q r s → Q' r s) → wpE C X (.srr a) s Q → wpE C X' (.srr a) s Q' := by
      intro s Q Q' h w
      simp only [wpE] at w ⊢
      exact iha.1 _ _ _ (fun r s1 ⟨xs, e, ok, w⟩ => ⟨xs, e, ok, h _ _ w⟩) w
    exact ⟨he, fun s Q Q' h w => by simp only [wpT] at w ⊢; exact dT _ he s Q Q' h w, fun _ _ _ h w => by simp only [wpA] at w; first | exact w.elim | done, fun s Q Q' h w => by simp only [wpO] at w ⊢; exact dO _ he s Q Q' h w⟩
  | fz a iha =>
    have he : ∀ s (Q Q' : R → St → Prop), (∀ r s, Q r s → Q' r s) → wpE C X (.fz a) s Q → wpE C X' (.fz a) s Q' := by
      intro s Q Q' h w
      simp only [wpE] at w ⊢
      exact iha.1 _ _ _ (fun r s1 ⟨x, s2, e, q⟩ => ⟨x, s2, e, h _ _ q⟩) w
    exact ⟨he, fun s Q Q' h w => by simp only [wpT] at w, fun _ _ _ h w => by simp only [wpA] at w; first | exact w.elim | done, fun s Q Q' h w => by simp only [wpO] at w ⊢; exact dO _ he s Q Q' h w⟩
  | comp own t k as c e ih ihc ihe =>
    have he : ∀ s (Q Q' : R → St → Prop), (∀ r s, Q r s → Q' r s) → wpE C X (.comp own t k as c e) s Q → wpE C X' (.comp own t k as c e) s Q' := by
      intro s Q Q' h w
      simp only [wpE] at w ⊢
      exact ih.2.2.1 _ _ _ (fun r s1 ⟨ds, e, w⟩ => ⟨ds, e, items_mono (fun xs w => compL_mono (cond := fun s Q => wpT C X c s Q) (cond' := fun s Q => wpT C X' c s Q) (elt := fun s Q => wpE C X _ s Q) (elt' := fun s Q => wpE C X' _ s Q) (fun s Q Q' h w => ihc.2.1 _ _ _ h w) (fun s Q Q' h w => ihe.1 _ _ _ h w) h _ _ _ w) w⟩) w
    exact ⟨he, fun s Q Q' h w => by simp only [wpT] at w ⊢; exact dT _ he s Q Q' h w, fun _ _ _ h w => by simp only [wpA] at w; first | exact w.elim | done, fun s Q Q' h w => by simp only [wpO] at w ⊢; exact dO _ he s Q Q' h w⟩
  | clx f as ih =>
    have he : ∀ s (Q Q' : R → St → Prop), (∀ r s, Q r s → Q' r s) → wpE C X (.clx f as) s Q → wpE C X' (.clx f as) s Q' := by
      intro s Q Q' h w
      simp only [wpE] at w ⊢
      exact ih.2.2.1 _ _ _ (fun r s1 ⟨os, e, n, w⟩ => ⟨os, e, n, hC _ _ _ _ (fun res fin ⟨s2, e2, q⟩ => ⟨s2, e2, excTo_mono (fun c ds q => hX.ex _ _ _ q) (fun q => h _ _ q) q⟩) w⟩) w
    exact ⟨he, fun s Q Q' h w => by simp only [wpT] at w ⊢; exact dT _ he s Q Q' h w, fun _ _ _ h w => by simp only [wpA] at w; first | exact w.elim | done, fun s Q Q' h w => by simp only [wpO] at w ⊢; exact dO _ he s Q Q' h w⟩
  | isx a cs iha =>
    have he : ∀ s (Q Q' : R → St → Prop), (∀ r s, Q r s → Q' r s) → wpE C X (.isx a cs) s Q → wpE C X' (.isx a cs) s Q' := by
      intro s Q Q' h w
      simp only [wpE] at w ⊢
      exact iha.1 _ _ _ (fun r s1 ⟨x, e, w⟩ => ⟨x, e, isXc_mono hX (fun z q => h _ _ q) w⟩) w
    exact ⟨he, fun s Q Q' h w => by simp only [wpT] at w ⊢; exact dT _ he s Q Q' h w, fun _ _ _ h w => by simp only [wpA] at w; first | exact w.elim | done, fun s Q Q' h w => by simp only [wpO] at w ⊢; exact dO _ he s Q Q' h w⟩
  | xat a f iha =>
    have he : ∀ s (Q Q' : R → St → Prop), (∀ r s, Q r s → Q' r s) → wpE C X (.xat a f) s Q → wpE C X' (.xat a f) s Q' := by
      intro s Q Q' h w
      simp only [wpE] at w ⊢
      exact iha.1 _ _ _ (fun r s1 ⟨x, e, w⟩ => ⟨x, e, atXc_mono hX (fun z q => h _ _ q) w⟩) w
    exact ⟨he, fun s Q Q' h w => by simp only [wpT] at w ⊢; exact dT _ he s Q Q' h w, fun _ _ _ h w => by simp only [wpA] at w; first | exact w.elim | done, fun s Q Q' h w => by simp only [wpO] at w ⊢; exact dO _ he s Q Q' h w⟩
  | at_ i a iha =>
    have he : ∀ s (Q Q' : R → St → Prop), (∀ r s, Q r s → Q' r s) → wpE C X (.at_ i a) s Q → wpE C X' (.at_ i a) s Q' := by
      intro s Q Q' h w
      simp only [wpE] at w ⊢
      exact iha.1 _ _ _ (fun r s1 w => atR_mono h w) w
    exact ⟨he, fun s Q Q' h w => by simp only [wpT] at w ⊢; exact dT _ he s Q Q' h w, fun _ _ _ h w => by simp only [wpA] at w; first | exact w.elim | done, fun s Q Q' h w => by simp only [wpO] at w ⊢; exact dO _ he s Q Q' h w⟩
  | cel i a iha =>
    have he : ∀ s (Q Q' : R → St → Prop), (∀ r s, Q r s → Q' r s) → wpE C X (.cel i a) s Q → wpE C X' (.cel i a) s Q' := by
      intro s Q Q' h w
      simp only [wpE] at w ⊢
      exact iha.1 _ _ _ (fun r s1 w => celR_mono h w) w
    exact ⟨he, fun s Q Q' h w => by simp only [wpT] at w, fun _ _ _ h w => by simp only [wpA] at w; first | exact w.elim | done, fun s Q Q' h w => by simp only [wpO] at w ⊢; exact dO _ he s Q Q' h w⟩
  | dnw i t =>
    have he : ∀ s (Q Q' : R → St → Prop), (∀ r s, Q r s → Q' r s) → wpE C X (.dnw i t) s Q → wpE C X' (.dnw i t) s Q' := by
      intro s Q Q' h w
      simp only [wpE] at w ⊢
      exact newC_mono (fun a s q => h _ _ q) w
    exact ⟨he, fun s Q Q' h w => by simp only [wpT] at w ⊢; exact dT _ he s Q Q' h w, fun _ _ _ h w => by simp only [wpA] at w; first | exact w.elim | done, fun s Q Q' h w => by simp only [wpO] at w ⊢; exact dO _ he s Q Q' h w⟩
  | dn1 i t k v ihk ihv =>
    have he : ∀ s (Q Q' : R → St → Prop), (∀ r s, Q r s → Q' r s) → wpE C X (.dn1 i t k v) s Q → wpE C X' (.dn1 i t k v) s Q' := by
      intro s Q Q' h w
      simp only [wpE] at w ⊢
      exact ihk.1 _ _ _ (fun r s1 w => ihv.1 _ _ _ (fun r2 s2 ⟨x, s3, e1, y, s4, e2, w⟩ => ⟨x, s3, e1, y, s4, e2, dPut_mono (fun z w => newC_mono (fun a s q => h _ _ q) w) w⟩) w) w
    exact ⟨he, fun s Q Q' h w => by simp only [wpT] at w ⊢; exact dT _ he s Q Q' h w, fun _ _ _ h w => by simp only [wpA] at w; first | exact w.elim | done, fun s Q Q' h w => by simp only [wpO] at w ⊢; exact dO _ he s Q Q' h w⟩
  | chc i m o as iho ih =>
    have he : ∀ s (Q Q' : R → St → Prop), (∀ r s, Q r s → Q' r s) → wpE C X (.chc i m o as) s Q → wpE C X' (.chc i m o as) s Q' := by
      intro s Q Q' h w
      simp only [wpE] at w ⊢
      exact iho.1 _ _ _ (fun r s1 w => isC_mono (fun j w => cellK_mono (fun x0 w => ⟨w.1, ih.2.2.1 _ _ _ (fun rs s2 ⟨ds, s3, e, w⟩ => ⟨ds, s3, e, cellK_mono (fun x w => mutC_mono (fun z y w => putC_mono (fun s q => h _ _ q) w) w) w⟩) w.2⟩) w) w) w
    exact ⟨he, fun s Q Q' h w => by simp only [wpT] at w ⊢; exact dT _ he s Q Q' h w, fun _ _ _ h w => by simp only [wpA] at w; first | exact w.elim | done, fun s Q Q' h w => by simp only [wpO] at w ⊢; exact dO _ he s Q Q' h w⟩
  | clh x i f as ih =>
    have he : ∀ s (Q Q' : R → St → Prop), (∀ r s, Q r s → Q' r s) → wpE C X (.clh x i f as) s Q → wpE C X' (.clh x i f as) s Q' := by
      intro s Q Q' h w
      simp only [wpE] at w ⊢
      exact ih.2.2.1 _ _ _ (fun r s1 ⟨os, e, n, w⟩ => ⟨os, e, n, regK_mono (fun M L ⟨ns, M1, e1, nd, w⟩ => ⟨ns, M1, e1, nd, hC _ _ _ _ (fun res fin w => lastH_mono (fun l M2 ⟨s2, e2, q⟩ => ⟨s2, e2, by
        cases x with
        | true => rw [if_pos rfl] at q ⊢; exact excTo_mono (fun c ds q => hX.ex _ _ _ q) (fun q => h _ _ q) q
        | false => rw [if_neg Bool.false_ne_true] at q ⊢; exact h _ _ q⟩) w) w⟩) w⟩) w
    exact ⟨he, fun s Q Q' h w => by simp only [wpT] at w ⊢; exact dT _ he s Q Q' h w, fun _ _ _ h w => by simp only [wpA] at w; first | exact w.elim | done, fun s Q Q' h w => by simp only [wpO] at w ⊢; exact dO _ he s Q Q' h w⟩
  | cmd i op a b iha ihb =>
    have he : ∀ s (Q Q' : R → St → Prop), (∀ r s, Q r s → Q' r s) → wpE C X (.cmd i op a b) s Q → wpE C X' (.cmd i op a b) s Q' := by
      intro s Q Q' h w
      simp only [wpE] at w ⊢
      exact iha.1 _ _ _ (fun r s1 w => ihb.1 _ _ _ (fun r2 s2 w => deepR_mono (fun x w => deepR_mono (fun y w => cmpop_mono (fun z q => h _ _ q) w) w) w) w) w
    exact ⟨he, fun s Q Q' h w => by simp only [wpT] at w ⊢; exact iha.1 _ _ _ (fun r s1 w => ihb.1 _ _ _ (fun r2 s2 w => deepR_mono (fun x w => deepR_mono (fun y w => cmpop_mono (fun z q => h _ _ q) w) w) w) w) w, fun _ _ _ h w => by simp only [wpA] at w; first | exact w.elim | done, fun s Q Q' h w => by simp only [wpO] at w ⊢; exact dO _ he s Q Q' h w⟩
end
theorem wpE_mono {X : Xc} {e : E} {s : St} {Q Q' : R → St → Prop} (w : wpE C X e s Q) (h : ∀ r s, Q r s → Q' r s) : wpE C X e s Q' := (wp_mono hC Xc.Le.rfl e).1 s Q Q' h w
theorem wpT_mono {X : Xc} {e : E} {s : St} {Q Q' : Bool → St → Prop} (w : wpT C X e s Q) (h : ∀ r s, Q r s → Q' r s) : wpT C X e s Q' := (wp_mono hC Xc.Le.rfl e).2.1 s Q Q' h w
theorem wpA_mono {X : Xc} {e : E} {s : St} {Q Q' : List R → St → Prop} (w : wpA C X e s Q) (h : ∀ r s, Q r s → Q' r s) : wpA C X e s Q' := (wp_mono hC Xc.Le.rfl e).2.2.1 s Q Q' h w
theorem wpO_mono {X : Xc} {e : E} {s : St} {Q Q' : Option Int → St → Prop} (w : wpO C X e s Q) (h : ∀ r s, Q r s → Q' r s) : wpO C X e s Q' := (wp_mono hC Xc.Le.rfl e).2.2.2 s Q Q' h w
theorem wpE_monoX {X X' : Xc} (hX : Xc.Le X X') {e : E} {s : St} {Q Q' : R → St → Prop} (w : wpE C X e s Q) (h : ∀ r s, Q r s → Q' r s) : wpE C X' e s Q' := (wp_mono hC hX e).1 s Q Q' h w
theorem wpT_monoX {X X' : Xc} (hX : Xc.Le X X') {e : E} {s : St} {Q Q' : Bool → St → Prop} (w : wpT C X e s Q) (h : ∀ r s, Q r s → Q' r s) : wpT C X' e s Q' := (wp_mono hC hX e).2.1 s Q Q' h w
theorem wpA_monoX {X X' : Xc} (hX : Xc.Le X X') {e : E} {s : St} {Q Q' : List R → St → Prop} (w : wpA C X e s Q) (h : ∀ r s, Q r s → Q' r s) : wpA C X' e s Q' := (wp_mono hC hX e).2.2.1 s Q Q' h w
theorem wpO_monoX {X X' : Xc} (hX : Xc.Le X X') {e : E} {s : St} {Q Q' : Option Int → St → Prop} (w : wpO C X e s Q) (h : ∀ r s, Q r s → Q' r s) : wpO C X' e s Q' := (wp_mono hC hX e).2.2.2 s Q Q' h w
/-- ends, weaker -/
structure En.Le (D D' : En) : Prop where
  nx : ∀ s, D.nx s → D'.nx s
  rt : ∀ r s, D.rt r s → D'.rt r s
  bk : ∀ s, D.bk s → D'.bk s
  ct : ∀ s, D.ct s → D'.ct s
  ex : ∀ c ds s, D.ex c ds s → D'.ex c ds s
  cur : D.cur = D'.cur
  hx : D.hx = D'.hx
omit hC in
theorem En.Le.xc {D D' : En} (h : En.Le D D') : Xc.Le D.xc D'.xc := ⟨h.ex, h.cur⟩
omit hC in
theorem dropN_mono {i : Nat} {s : St} {K K' : St → Prop} (h : ∀ s, K s → K' s) (w : dropN i s K) : dropN i s K' := by
  unfold dropN at w ⊢
  split at w
  · rw [setK_eq] at w ⊢; exact h _ w
  · exact w
omit hC in
theorem putN_ex {i : Nat} {o : O} {s : St} {K : St → Prop} (w : putN i o s K) : s[i]? = some none ∧ K (s.set i (some o)) := by
  unfold putN at w
  split at w
  · rw [setK_eq] at w; exact ⟨by assumption, w⟩
  · exact w.elim
omit hC in
theorem putN_mono {i : Nat} {o : O} {s : St} {K K' : St → Prop} (h : ∀ s, K s → K' s) (w : putN i o s K) : putN i o s K' := by
  unfold putN at w ⊢
  split at w
  · rw [setK_eq] at w ⊢; exact h _ w
  · exact w
omit hC in
theorem En.Le.su {D D' : En} (h : En.Le D D') : En.Le D.su D'.su := ⟨h.nx, h.rt, h.bk, h.ct, fun _ _ _ q => q, rfl, rfl⟩
omit hC in
theorem En.Le.suA {D D' : En} (h : En.Le D D') (i : Nat) (a : Addr) (c : Nat) (dd : Option Addr) : En.Le (D.suA i a c dd) (D'.suA i a c dd) := ⟨fun _ q => dropN_mono h.nx q, h.rt, fun _ q => dropN_mono h.bk q, fun _ q => dropN_mono h.ct q, fun _ _ _ q => q, rfl, rfl⟩
omit hC in
theorem forL_mono {t : Tg} {body : En → St → Prop} {ul : St → St} (hb : ∀ D D' s, En.Le D D' → body D s → body D' s) {D D' : En} (h : En.Le D D') : ∀ xs s, forL t body ul D xs s → forL t body ul D' xs s
  | [], s, w => by simp only [forL] at w ⊢; exact h.nx _ w
  | x :: xs, s, w => by
    simp only [forL] at w ⊢
    obtain ⟨s1, e, w⟩ := w
    refine ⟨s1, e, hb _ _ _ ?_ w⟩
    exact ⟨fun _ q => forL_mono hb h xs _ q, fun _ _ q => h.rt _ _ q, fun _ q => h.nx _ q, fun _ q => forL_mono hb h xs _ q, fun _ _ _ q => h.ex _ _ _ q, h.cur, rfl⟩
theorem wpS_mono : ∀ (b : S) (D D' : En) (s : St), En.Le D D' → wpS C b D s → wpS C b D' s := by
  intro b
  induction b with
  | skip => intro D D' s h w; simp only [wpS] at w ⊢; exact h.nx _ w
  | seq a b iha ihb => intro D D' s h w; simp only [wpS] at w ⊢; refine iha _ _ _ ?_ w; exact ⟨fun _ q => ihb _ _ _ h q, h.rt, h.bk, h.ct, h.ex, h.cur, h.hx⟩
  | asg t e =>
    intro D D' s h w
    cases t <;> (simp only [wpS] at w ⊢) <;> first
      | exact wpE_monoX hC h.xc w fun r s1 ⟨o, s2, s3, e1, e2, q⟩ => ⟨o, s2, s3, e1, e2, h.nx _ q⟩
      | exact wpE_monoX hC h.xc w fun r s1 ⟨x, s2, s3, e1, e2, q⟩ => ⟨x, s2, s3, e1, e2, h.nx _ q⟩
  | par i j a b =>
    intro D D' s h w; simp only [wpS] at w ⊢
    exact wpE_monoX hC h.xc w fun r s1 w => wpE_monoX hC h.xc w fun r2 s2 ⟨x, y, s3, s4, e1, e2, s5, s6, e3, e4, q⟩ => ⟨x, y, s3, s4, e1, e2, s5, s6, e3, e4, h.nx _ q⟩
  | set o i e =>
    intro D D' s h w; simp only [wpS] at w ⊢
    exact wpE_monoX hC h.xc w fun r s1 ⟨hb, w⟩ => ⟨hb, wpE_monoX hC h.xc w fun r2 s2 ⟨x, s3, e1, k, p, xs, j, e2, e3, e4, q⟩ => ⟨x, s3, e1, k, p, xs, j, e2, e3, e4, h.nx _ q⟩⟩
  | aug i op e =>
    intro D D' s h w; simp only [wpS] at w ⊢
    obtain ⟨x, e, w⟩ := w
    exact ⟨x, e, wpE_monoX hC h.xc w fun r s1 ⟨y, e1, w⟩ => ⟨y, e1, iop_mono (fun z ⟨s2, e2, q⟩ => ⟨s2, e2, h.nx _ q⟩) w⟩⟩
  | augs o i op e =>
    intro D D' s h w; simp only [wpS] at w ⊢
    exact ⟨w.1, wpE_monoX hC h.xc w.2 fun r s1 ⟨k, p, xs, x, e1, e2, e3, w⟩ => ⟨k, p, xs, x, e1, e2, e3, wpE_monoX hC h.xc w fun r2 s2 ⟨y, e4, w⟩ => ⟨y, e4, iop_mono (fun z ⟨w', p', ys, j, e5, e6, e7, q⟩ => ⟨w', p', ys, j, e5, e6, e7, h.nx _ q⟩) w⟩⟩⟩
  | ex e => intro D D' s h w; simp only [wpS] at w ⊢; exact wpE_monoX hC h.xc w fun r s1 q => h.nx _ q
  | ite c a b iha ihb =>
    intro D D' s h w; simp only [wpS] at w ⊢
    refine wpT_monoX hC h.xc w fun k s1 w => ?_
    cases k with
    | true => rw [if_pos rfl] at w ⊢; exact iha _ _ _ h w
    | false => rw [if_neg Bool.false_ne_true] at w ⊢; exact ihb _ _ _ h w
  | for_ t k as b ih =>
    intro D D' s h w; simp only [wpS] at w ⊢
    exact wpA_monoX hC h.xc w fun rs s1 ⟨ds, e, w⟩ => ⟨ds, e, items_mono (fun xs w => forL_mono (body := fun D s => wpS C b D s) (fun D D' s h w => ih _ _ _ h w) h _ _ w) w⟩
  | while_ c b ih =>
    intro D D' s h w; simp only [wpS] at w ⊢
    obtain ⟨W, m, w⟩ := w
    refine ⟨W, m, fun m s hw => wpT_monoX hC h.xc (w m s hw) fun k s1 w => ?_⟩
    cases k with
    | true => rw [if_pos rfl] at w ⊢; refine ih _ _ _ ?_ w; exact ⟨fun _ q => q, h.rt, h.nx, fun _ q => q, h.ex, h.cur, h.hx⟩
    | false => rw [if_neg Bool.false_ne_true] at w ⊢; exact h.nx _ w
  | ret e => intro D D' s h w; simp only [wpS] at w ⊢; exact wpE_monoX hC h.xc w fun r s1 q => h.rt _ _ q
  | retn => intro D D' s h w; simp only [wpS] at w ⊢; exact h.rt _ _ w
  | brk => intro D D' s h w; simp only [wpS] at w ⊢; exact h.bk _ w
  | cnt => intro D D' s h w; simp only [wpS] at w ⊢; exact h.ct _ w
  | never => intro D D' s h w; simp only [wpS] at w
  | rse c as => intro D D' s h w; simp only [wpS] at w ⊢; exact wpA_monoX hC h.xc w fun rs s1 ⟨xs, e, e2, e3, q⟩ => ⟨xs, e, e2, e3, h.ex _ _ _ q⟩
  | try_ b g e ihb ihg ihe =>
    intro D D' s h w; simp only [wpS] at w ⊢
    refine ihb _ _ _ ?_ w
    exact ⟨fun _ q => ihe _ _ _ h q, h.rt, h.bk, h.ct, fun c ds s1 q => ihg { D with hx := some (c, ds) } { D' with hx := some (c, ds) } s1 ⟨h.nx, h.rt, h.bk, h.ct, h.ex, h.cur, rfl⟩ q, h.cur, h.hx⟩
  | hnd cs i b r ihb ihr =>
    intro D D' s h w; simp only [wpS] at w ⊢
    rw [← h.hx]
    generalize hD : D.hx = o at w ⊢
    cases o with
    | none => exact w
    | some p =>
      obtain ⟨c, ds⟩ := p
      simp only at w ⊢
      split at w
      · rename_i z
        rw [if_pos z]
        cases i with
        | none => exact ihb _ _ _ h.su w
        | some i =>
          intro a d
          exact putN_mono (fun s1 w => ihb _ _ _ (h.suA i a c (xdd ds d)) w) (w a d)
      · rename_i z
        rw [if_neg z]
        exact ihr _ _ _ h w
  | rer =>
    intro D D' s h w; simp only [wpS] at w ⊢
    rw [← h.hx]
    generalize hD : D.hx = o at w ⊢
    cases o with
    | none => exact w
    | some p => exact h.ex _ _ _ w
  | asgd i e => intro D D' s h w; simp only [wpS] at w ⊢; exact wpE_monoX hC h.xc w fun r s1 ⟨o, s2, s3, e1, e2, q⟩ => ⟨o, s2, s3, e1, e2, h.nx _ q⟩
  | seth i o k e =>
    intro D D' s h w; simp only [wpS] at w ⊢
    exact wpE_monoX hC h.xc w fun r s1 w => wpE_monoX hC h.xc w fun ro s2 w => wpE_monoX hC h.xc w fun ri s3 ⟨v, s4, e1, w⟩ => ⟨v, s4, e1, isC_mono (fun j ⟨k, e2, w⟩ => ⟨k, e2, cellK_mono (fun x w => setC_mono (fun y w => putC_mono h.nx w) w) w⟩) w⟩
  | augh i o k op e =>
    intro D D' s h w; simp only [wpS] at w ⊢
    exact wpE_monoX hC h.xc w fun ro s1 w => wpE_monoX hC h.xc w fun ri s2 w => isC_mono (fun j ⟨k, e2, w⟩ => ⟨k, e2, cellK_mono (fun x w => index_mono (fun z w => wpE_monoX hC h.xc w fun r s3 ⟨y, e3, w⟩ => ⟨y, e3, iop_mono (fun z ⟨wd, e4, k', e5, w⟩ => ⟨wd, e4, k', e5, cellK_mono (fun x w => setC_mono (fun y w => putC_mono h.nx w) w) w⟩) w⟩) w) w⟩) w
  | root i b ih =>
    intro D D' s h w; simp only [wpS] at w ⊢
    exact putN_mono (fun s1 w => by refine ih _ _ _ ?_ w; exact ⟨fun _ q => h.nx _ q, fun r s q => by dsimp only at q ⊢; exact retC_mono (fun _ q => h.rt _ _ q) q, fun _ q => q, fun _ q => q, fun _ _ _ q => h.ex _ _ _ q, h.cur, h.hx⟩) w
  | rgn i b ih =>
    intro D D' s h w; simp only [wpS] at w ⊢
    refine ih _ _ _ ?_ w; exact ⟨fun _ q => shrink_mono h.nx q, fun r s q => by dsimp only at q ⊢; exact retC_mono (fun _ q => shrink_mono (fun _ q => h.rt _ _ q) q) q, fun _ q => q, fun _ q => q, fun _ _ _ q => shrink_mono (fun _ q => h.ex _ _ _ q) q, h.cur, h.hx⟩
end
theorem call_mono (T : Tab) : ∀ k, CtMono (call T k)
  | 0 => fun _ _ _ _ _ w => by simp only [call] at w; first | exact w.elim | done
  | k + 1 => fun f os Q Q' h w => by
    simp only [call] at w ⊢
    obtain ⟨F, e, l, w⟩ := w
    refine ⟨F, e, l, wpS_mono (call_mono T k) _ _ _ _ ?_ w⟩
    exact ⟨fun _ q => h _ _ q, fun _ _ ⟨o, s2, e, x, q⟩ => ⟨o, s2, e, x, h _ _ q⟩, fun _ q => q.elim, fun _ q => q.elim, fun _ _ _ ⟨x, q⟩ => ⟨x, h _ _ q⟩, rfl, rfl⟩
end Itp

namespace Itp
open PySem
open L2 (V Hp HO upd upd_same upd_ne ne_of ne_of_none Same)

/-- the module's own objects -/
class KF where
  k : PySem.W.Frag
variable [KF]
/-! ### data in a heap -/
/-- a scalar's value -/
def scV : D → V
  | .bl b => .bl b
  | .int i => .int i
  | .str s => .str s
  | _ => .non
/-- an exception's fields, the last one stored first -/
def xFs (c : Nat) (ds : List D) : List (Str × V) := (((xFl c).zip ds).map fun (p : Nat × D) => (((fNm[p.1]?).getD ("" : Str), scV p.2) : Str × V)).reverse
mutual
def Sh (H : Hp) : D → V → Prop
  | .non, v => v = .non
  | .bl b, v => v = .bl b
  | .int i, v => v = .int i
  | .str s, v => v = .str s
  | .ty n, v => v = .ty n
  | .lst xs, v => ∃ a vs, v = .ref a ∧ H a = some (.lst vs) ∧ ShA H xs vs
  | .tup xs, v => ∃ a vs, v = .ref a ∧ H a = some (.tup vs) ∧ ShA H xs vs
  | .frz xs, v => ∃ a vs, v = .ref a ∧ L2.SqL KF.k H a vs ∧ ShA H xs vs
  | .xcp a dd c ds, v => v = .ref a ∧ ds.all D.isScal = true ∧ ds.length = (xFl c).length ∧ ∀ d, dd = some d → H d = some (.xd (xFs c ds))
  | .ref a, v => v = .ref a
  | .dcK ks vs, v => ∃ a us, v = .ref a ∧ H a = some (.dK (ks.zip us)) ∧ ks.length = us.length ∧ ShA H vs us
  | .dcT ks vs, v => ∃ a us, v = .ref a ∧ H a = some (.dT (ks.zip us)) ∧ ks.length = us.length ∧ ShA H vs us
  | .obj _ _ _, _ => False
def ShA (H : Hp) : List D → List V → Prop
  | [], vs => vs = []
  | x :: xs, vs => ∃ v r, vs = v :: r ∧ Sh H x v ∧ ShA H xs r
end
mutual
theorem Sh.mono {H H' : Hp} (m : Same H H') : ∀ {x : D} {v : V}, Sh H x v → Sh H' x v
  | .non, _, h => h
  | .bl _, _, h => h
  | .int _, _, h => h
  | .str _, _, h => h
  | .ty _, _, h => h
  | .lst xs, _, h => by
    obtain ⟨a, vs, e, q, r⟩ := h
    exact ⟨a, vs, e, m _ _ q, ShA.mono m r⟩
  | .tup xs, _, h => by
    obtain ⟨a, vs, e, q, r⟩ := h
    exact ⟨a, vs, e, m _ _ q, ShA.mono m r⟩
  | .frz xs, _, h => by
    obtain ⟨a, vs, e, q, r⟩ := h
    exact ⟨a, vs, e, L2.Same.seq m q, ShA.mono m r⟩
  | .xcp a dd c ds, _, h => ⟨h.1, h.2.1, h.2.2.1, fun d e => m _ _ (h.2.2.2 d e)⟩
  | .ref _, _, h => h
  | .dcK ks vs, _, h => by
    obtain ⟨a, us, e, q, l, r⟩ := h
    exact ⟨a, us, e, m _ _ q, l, ShA.mono m r⟩
  | .dcT ks vs, _, h => by
    obtain ⟨a, us, e, q, l, r⟩ := h
    exact ⟨a, us, e, m _ _ q, l, ShA.mono m r⟩
  | .obj _ _ _, _, h => h
theorem ShA.mono {H H' : Hp} (m : Same H H') : ∀ {xs : List D} {vs : List V}, ShA H xs vs → ShA H' xs vs
  | [], _, h => h
  | x :: xs, _, h => by
    obtain ⟨v, r, e, q, t⟩ := h
    exact ⟨v, r, e, Sh.mono m q, ShA.mono m t⟩
end
section
variable {H : Hp}
theorem ShA.nil : ShA H [] [] := rfl
theorem ShA.cons {x : D} {v : V} {xs : List D} {vs : List V} (a : Sh H x v) (b : ShA H xs vs) : ShA H (x :: xs) (v :: vs) := ⟨v, vs, rfl, a, b⟩
theorem ShA.len : ∀ {xs : List D} {vs : List V}, ShA H xs vs → xs.length = vs.length
  | [], _, h => by cases (show _ = [] from h); rfl
  | x :: xs, _, h => by
    obtain ⟨v, r, e, _, t⟩ := h
    subst e
    simp [ShA.len t]
theorem ShA.get : ∀ {xs : List D} {vs : List V} {i : Nat} {x : D}, ShA H xs vs → xs[i]? = some x → ∃ v, vs[i]? = some v ∧ Sh H x v
  | [], _, _, _, _, e => by simp at e
  | x :: xs, _, 0, _, h, e => by
    obtain ⟨v, r, e2, q, t⟩ := h
    subst e2
    simp at e; subst e
    exact ⟨v, rfl, q⟩
  | x :: xs, _, i + 1, y, h, e => by
    obtain ⟨v, r, e2, q, t⟩ := h
    subst e2
    obtain ⟨w, a, b⟩ := ShA.get (i := i) (x := y) t (by simpa using e)
    exact ⟨w, by simpa using a, b⟩
theorem ShA.of : ∀ {xs : List D} {vs : List V}, xs.length = vs.length → (∀ (i : Nat) x v, xs[i]? = some x → vs[i]? = some v → Sh H x v) → ShA H xs vs
  | [], [], _, _ => rfl
  | [], _ :: _, e, _ => by simp at e
  | _ :: _, [], e, _ => by simp at e
  | x :: xs, v :: vs, e, h => ⟨v, vs, rfl, h 0 x v rfl rfl, ShA.of (by simpa using e) fun i y w a b => h (i + 1) y w (by simpa using a) (by simpa using b)⟩
theorem ShA.at {xs : List D} {vs : List V} (h : ShA H xs vs) {i : Nat} {x : D} {v : V} (a : xs[i]? = some x) (b : vs[i]? = some v) : Sh H x v := by
  obtain ⟨w, e, q⟩ := h.get a
  rw [b] at e; cases e; exact q
theorem ShA.app {xs ys : List D} {vs ws : List V} (h : ShA H xs vs) (k : ShA H ys ws) : ShA H (xs ++ ys) (vs ++ ws) := by
  have e1 := h.len
  have e2 := k.len
  refine ShA.of (by simp [e1, e2]) fun i x v a b => ?_
  by_cases hi : i < xs.length
  · rw [List.getElem?_append_left hi] at a
    rw [List.getElem?_append_left (by omega)] at b
    exact h.at a b
  · rw [List.getElem?_append_right (by omega)] at a
    rw [List.getElem?_append_right (by omega)] at b
    exact k.at a (by rw [e1]; exact b)
theorem ShA.drop {xs : List D} {vs : List V} (h : ShA H xs vs) (n : Nat) : ShA H (xs.drop n) (vs.drop n) := by
  have e1 := h.len
  refine ShA.of (by simp [e1]) fun i x v a b => ?_
  rw [List.getElem?_drop] at a b
  exact h.at a b
theorem ShA.take {xs : List D} {vs : List V} (h : ShA H xs vs) (n : Nat) : ShA H (xs.take n) (vs.take n) := by
  have e1 := h.len
  refine ShA.of (by simp [e1]) fun i x v a b => ?_
  rw [List.getElem?_take] at a b
  split at a
  · rw [if_pos (by assumption)] at b; exact h.at a b
  · cases a
theorem ShA.rev {xs : List D} {vs : List V} (h : ShA H xs vs) : ShA H xs.reverse vs.reverse := by
  have e1 := h.len
  refine ShA.of (by simp [e1]) fun i x v a b => ?_
  have hi : i < xs.length := by
    have := (List.getElem?_eq_some_iff.mp a).1
    simpa using this
  rw [List.getElem?_reverse hi] at a
  rw [List.getElem?_reverse (by omega)] at b
  exact h.at a (by rw [e1]; exact b)
theorem ShA.set {xs : List D} {vs : List V} (h : ShA H xs vs) (j : Nat) {x : D} {v : V} (q : Sh H x v) : ShA H (xs.set j x) (vs.set j v) := by
  have e1 := h.len
  refine ShA.of (by simp [e1]) fun i y w a b => ?_
  rw [List.getElem?_set] at a b
  split at a
  · rename_i hij
    subst hij
    rw [if_pos rfl] at b
    split at a
    · rw [if_pos (by omega)] at b; cases a; cases b; exact q
    · cases a
  · rename_i hij
    rw [if_neg hij] at b
    exact h.at a b
theorem ShA.dropLast {xs : List D} {vs : List V} (h : ShA H xs vs) : ShA H xs.dropLast vs.dropLast := by
  rw [List.dropLast_eq_take, List.dropLast_eq_take, h.len]
  exact h.take _
theorem ShA.erase {xs : List D} {vs : List V} (h : ShA H xs vs) (n : Nat) : ShA H (xs.eraseIdx n) (vs.eraseIdx n) := by
  rw [List.eraseIdx_eq_take_drop_succ, List.eraseIdx_eq_take_drop_succ]
  exact (h.take n).app (h.drop (n + 1))
theorem ShA.cut {xs : List D} {vs : List V} (h : ShA H xs vs) (lo hi : Option Int) : ShA H (cut xs lo hi) (L2.cutV vs lo hi) := by
  unfold Itp.cut L2.cutV
  rw [h.len]
  exact (h.drop _).take _
theorem ShA.ints : ∀ (xs : List D) (vs : List V) (ns : List Int), ShA H xs vs → intsOf xs = some ns → vs = ns.map V.int
  | [], _, ns, h, e => by
    cases (show _ = [] from h)
    simp only [intsOf, Option.some.injEq] at e
    subst e
    rfl
  | x :: xs, _, ns, h, e => by
    obtain ⟨v, r, e2, q, t⟩ := h
    subst e2
    cases x with
    | int i =>
      have q : v = V.int i := q
      subst q
      simp only [intsOf, Option.map_eq_some_iff] at e
      obtain ⟨ms, e3, e4⟩ := e
      subst e4
      rw [ShA.ints xs r ms t e3]
      rfl
    | _ => simp [intsOf] at e
theorem ShA.ofInts (ns : List Int) : ShA H (ns.map D.int) (ns.map V.int) := by
  refine ShA.of (by simp) fun i x v a b => ?_
  rw [List.getElem?_map] at a b
  cases e : ns[i]? with
  | none => rw [e] at a; cases a
  | some n => rw [e] at a b; cases a; cases b; rfl
theorem ShA.bools : ∀ (xs : List D) (vs : List V) (ns : List Bool), ShA H xs vs → boolsOf xs = some ns → vs = ns.map V.bl
  | [], _, ns, h, e => by
    cases (show _ = [] from h)
    simp only [boolsOf, Option.some.injEq] at e
    subst e
    rfl
  | x :: xs, _, ns, h, e => by
    obtain ⟨v, r, e2, q, t⟩ := h
    subst e2
    cases x with
    | bl i =>
      have q : v = V.bl i := q
      subst q
      simp only [boolsOf, Option.map_eq_some_iff] at e
      obtain ⟨ms, e3, e4⟩ := e
      subst e4
      rw [ShA.bools xs r ms t e3]
      rfl
    | _ => simp [boolsOf] at e
theorem ShA.strs : ∀ (xs : List D) (vs : List V) (ns : List Str), ShA H xs vs → strsOf xs = some ns → vs = ns.map V.str
  | [], _, ns, h, e => by
    cases (show _ = [] from h)
    simp only [strsOf, Option.some.injEq] at e
    subst e
    rfl
  | x :: xs, _, ns, h, e => by
    obtain ⟨v, r, e2, q, t⟩ := h
    subst e2
    cases x with
    | str i =>
      have q : v = V.str i := q
      subst q
      simp only [strsOf, Option.map_eq_some_iff] at e
      obtain ⟨ms, e3, e4⟩ := e
      subst e4
      rw [ShA.strs xs r ms t e3]
      rfl
    | _ => simp [strsOf] at e
end

/-! ### what is held by a variable, by a result -/
def held : O → Bool
  | .d _ => false
  | .l _ _ => true
  | .k _ _ => true
  | .h _ _ => false
/-- what stands in a cell at a -/
def CellR (Hs H : Hp) (a : Addr) : D → Prop
  | .lst xs => ∃ vs, H a = some (.lst vs) ∧ ShA Hs xs vs
  | .dcK ks vs => ∃ us, H a = some (.dK (ks.zip us)) ∧ ks.length = us.length ∧ ShA Hs vs us
  | .dcT ks vs => ∃ us, H a = some (.dT (ks.zip us)) ∧ ks.length = us.length ∧ ShA Hs vs us
  | _ => False
theorem CellR.there {Hs H : Hp} {a : Addr} {x : D} (h : CellR Hs H a x) : ∃ o, H a = some o := by
  cases x <;> first | exact h.elim | (obtain ⟨vs, e, _⟩ := h; exact ⟨_, e⟩)
theorem CellR.to {Hs H Hs' H' : Hp} {a : Addr} {x : D} (h : CellR Hs H a x) (m : Same Hs Hs') (k : ∀ o, H a = some o → H' a = some o) : CellR Hs' H' a x := by
  cases x <;> first | exact h.elim | (obtain ⟨vs, e, r⟩ := h; exact ⟨vs, k _ e, ShA.mono m r⟩) | (obtain ⟨vs, e, l, r⟩ := h; exact ⟨vs, k _ e, l, ShA.mono m r⟩)
/-- the cells stand, each in a place of its own -/
structure Rgn (Hs H : Hp) (M : List (Addr × D)) : Prop where
  at_ : ∀ (n : Nat) (a : Addr) (x : D), M[n]? = some (a, x) → Hs a = none ∧ CellR Hs H a x
  uniq : ∀ (n m : Nat) (a : Addr) (x y : D), M[n]? = some (a, x) → M[m]? = some (a, y) → n = m
theorem Rgn.to {Hs H Hs' H' : Hp} {M : List (Addr × D)} (h : Rgn Hs H M) (m : Same Hs Hs') (k : ∀ (n : Nat) (a : Addr) (x : D), M[n]? = some (a, x) → (∀ o, H a = some o → H' a = some o) ∧ Hs' a = none) : Rgn Hs' H' M :=
  ⟨fun n a x e => ⟨(k n a x e).2, (h.at_ n a x e).2.to m (k n a x e).1⟩, h.uniq⟩
def Rep (Hs H : Hp) (v : V) : O → Prop
  | .d x => Sh Hs x v
  | .l _ xs => ∃ a vs, v = .ref a ∧ H a = some (.lst vs) ∧ ShA Hs xs vs ∧ Hs a = none
  | .k _ xs => ∃ a vs, v = .ref a ∧ H a = some (.lst vs) ∧ ShA Hs xs vs ∧ Hs a = none
  | .h M L => Rgn Hs H M ∧ ∀ n ∈ L, n < M.length
/-- a variable's own list stands at a -/
def OwnS (σ : L2.St) (st : St) (a : Addr) : Prop := ∃ (i : Nat) (p : Bool) (xs : List D), st[i]? = some (some (.l p xs)) ∧ σ[i]? = some (some (.ref a))
/-- a cell that is not locked -/
def OwnH (st : St) (a : Addr) : Prop := ∃ (i : Nat) (M : List (Addr × D)) (L : List Nat) (n : Nat) (x : D), st[i]? = some (some (.h M L)) ∧ M[n]? = some (a, x) ∧ n ∉ L
def Own (σ : L2.St) (st : St) (a : Addr) : Prop := OwnS σ st a ∨ OwnH st a
def HelS (σ : L2.St) (st : St) (a : Addr) : Prop := ∃ (i : Nat) (o : O), st[i]? = some (some o) ∧ held o = true ∧ σ[i]? = some (some (.ref a))
def HelH (st : St) (a : Addr) : Prop := ∃ (i : Nat) (M : List (Addr × D)) (L : List Nat) (n : Nat) (x : D), st[i]? = some (some (.h M L)) ∧ M[n]? = some (a, x)
def Hel (σ : L2.St) (st : St) (a : Addr) : Prop := HelS σ st a ∨ HelH st a
structure Ok (σ : L2.St) (st : St) (Hs H : Hp) : Prop where
  len : st.length = σ.length
  sub : Same Hs H
  rep : ∀ (i : Nat) (o : O), st[i]? = some (some o) → ∃ v, σ[i]? = some (some v) ∧ Rep Hs H v o
  inj : ∀ (i j : Nat) (p : Bool) (xs : List D) (o : O) (a : Addr), st[i]? = some (some (.l p xs)) → st[j]? = some (some o) → held o = true → σ[i]? = some (some (.ref a)) → σ[j]? = some (some (.ref a)) → i = j
  apt : ∀ a, HelH st a → ¬ HelS σ st a
  one : ∀ (i j : Nat) (M M' : List (Addr × D)) (L L' : List Nat), st[i]? = some (some (.h M L)) → st[j]? = some (some (.h M' L')) → i = j
/-- what a step may change -/
structure Fr (σ : L2.St) (st : St) (Hs H : Hp) (σ' : L2.St) (st' : St) (Hs' H' : Hp) : Prop where
  sub : Same Hs Hs'
  keep : ∀ a o, H a = some o → ¬ Own σ st a → H' a = some o
  dom : ∀ a, H' a = none → H a = none
  own : ∀ a, Own σ' st' a → Own σ st a ∨ H a = none
  shr : ∀ a, Hs a = none → ¬ Own σ st a → H a ≠ none → Hs' a = none
  kk : ∀ (i : Nat) (p : Bool) (xs : List D), st'[i]? = some (some (.k p xs)) → st[i]? = some (some (.k p xs)) ∧ σ'[i]? = σ[i]?
  kp : ∀ (i : Nat) (xs : List D), st[i]? = some (some (.k true xs)) → st'[i]? = some (some (.k true xs)) ∧ σ'[i]? = σ[i]?
  lp : ∀ (i : Nat) (xs : List D), st[i]? = some (some (.l true xs)) → ∃ ys, st'[i]? = some (some (.l true ys)) ∧ σ'[i]? = σ[i]?
  bd : ∀ (i : Nat) (o : O), st[i]? = some (some o) → ∃ o', st'[i]? = some (some o')
  sz : st'.length = st.length
  hp : ∀ (i : Nat) (M : List (Addr × D)) (L : List Nat), st[i]? = some (some (.h M L)) → ∃ M', st'[i]? = some (some (.h M' L)) ∧ ∀ (n : Nat) (a : Addr) (x : D), M[n]? = some (a, x) → ∃ y, M'[n]? = some (a, y) ∧ (n ∈ L → y = x)
  hq : ∀ (i : Nat) (M : List (Addr × D)) (L : List Nat), st'[i]? = some (some (.h M L)) → ∃ M', st[i]? = some (some (.h M' L)) ∧ ∀ (n : Nat) (a : Addr) (x : D), M[n]? = some (a, x) → n ∈ L → ∃ y, M'[n]? = some (a, y)
section
variable {σ σ1 σ2 : L2.St} {st st1 st2 : St} {Hs H Hs1 H1 Hs2 H2 : Hp}
theorem OwnS.hel {a : Addr} (h : OwnS σ st a) : HelS σ st a := by
  obtain ⟨i, p, xs, e, q⟩ := h
  exact ⟨i, _, e, rfl, q⟩
theorem OwnH.hel {a : Addr} (h : OwnH st a) : HelH st a := by
  obtain ⟨i, M, L, n, x, e, q, _⟩ := h
  exact ⟨i, M, L, n, x, e, q⟩
theorem Own.hel {a : Addr} (h : Own σ st a) : Hel σ st a := h.elim (fun h => .inl h.hel) fun h => .inr h.hel
theorem Ok.lst_hel (k : Ok σ st Hs H) {a : Addr} (h : HelS σ st a) : (∃ vs, H a = some (.lst vs)) ∧ Hs a = none := by
  obtain ⟨i, o, e, hh, q⟩ := h
  obtain ⟨v, e2, r⟩ := k.rep i o e
  rw [q] at e2; cases e2
  cases o with
  | d x => cases hh
  | h M L => cases hh
  | l p xs => obtain ⟨b, vs, e3, h1, _, h2⟩ := r; cases e3; exact ⟨⟨vs, h1⟩, h2⟩
  | k p xs => obtain ⟨b, vs, e3, h1, _, h2⟩ := r; cases e3; exact ⟨⟨vs, h1⟩, h2⟩
theorem Ok.rgn (k : Ok σ st Hs H) {i : Nat} {M : List (Addr × D)} {L : List Nat} (e : st[i]? = some (some (.h M L))) : Rgn Hs H M := (k.rep i _ e).elim fun _ h => h.2.1
theorem Ok.inL (k : Ok σ st Hs H) {i : Nat} {M : List (Addr × D)} {L : List Nat} (e : st[i]? = some (some (.h M L))) : ∀ n ∈ L, n < M.length := (k.rep i _ e).elim fun _ h => h.2.2
theorem Ok.own_at (k : Ok σ st Hs H) {a : Addr} (h : Hel σ st a) : (∃ o, H a = some o) ∧ Hs a = none := by
  rcases h with h | ⟨i, M, L, n, x, e, q⟩
  · obtain ⟨⟨vs, e⟩, h⟩ := k.lst_hel h
    exact ⟨⟨_, e⟩, h⟩
  · obtain ⟨h1, h2⟩ := (k.rgn e).at_ n a x q
    exact ⟨h2.there, h1⟩
theorem Fr.refl : Fr σ st Hs H σ st Hs H :=
  ⟨fun _ _ h => h, fun _ _ h _ => h, fun _ h => h, fun _ h => .inl h, fun _ h _ _ => h, fun _ _ _ h => ⟨h, rfl⟩, fun _ _ h => ⟨h, rfl⟩, fun _ xs h => ⟨xs, h, rfl⟩, fun _ o h => ⟨o, h⟩, rfl, fun _ M _ h => ⟨M, h, fun _ _ x e => ⟨x, e, fun _ => rfl⟩⟩, fun _ M _ h => ⟨M, h, fun _ _ x e _ => ⟨x, e⟩⟩⟩
theorem Fr.trans (a : Fr σ st Hs H σ1 st1 Hs1 H1) (b : Fr σ1 st1 Hs1 H1 σ2 st2 Hs2 H2) : Fr σ st Hs H σ2 st2 Hs2 H2 where
  sub := a.sub.trans b.sub
  keep := fun x o h n => b.keep x o (a.keep x o h n) fun z => by
    rcases a.own x z with z | z
    · exact n z
    · rw [z] at h; cases h
  dom := fun x h => a.dom x (b.dom x h)
  own := fun x h => by
    rcases b.own x h with h | h
    · exact a.own x h
    · exact .inr (a.dom x h)
  shr := fun x h n e => by
    have h1 := a.shr x h n e
    refine b.shr x h1 (fun z => ?_) fun z => e (a.dom x z)
    rcases a.own x z with z | z
    · exact n z
    · exact e z
  kk := fun i p xs h => by
    obtain ⟨h1, e1⟩ := b.kk i p xs h
    obtain ⟨h2, e2⟩ := a.kk i p xs h1
    exact ⟨h2, e1.trans e2⟩
  kp := fun i xs h => by
    obtain ⟨h1, e1⟩ := a.kp i xs h
    obtain ⟨h2, e2⟩ := b.kp i xs h1
    exact ⟨h2, e2.trans e1⟩
  lp := fun i xs h => by
    obtain ⟨ys, h1, e1⟩ := a.lp i xs h
    obtain ⟨zs, h2, e2⟩ := b.lp i ys h1
    exact ⟨zs, h2, e2.trans e1⟩
  bd := fun i o h => by
    obtain ⟨o1, h1⟩ := a.bd i o h
    exact b.bd i o1 h1
  sz := b.sz.trans a.sz
  hp := fun i M L h => by
    obtain ⟨M1, h1, f1⟩ := a.hp i M L h
    obtain ⟨M2, h2, f2⟩ := b.hp i M1 L h1
    refine ⟨M2, h2, fun n x d e => ?_⟩
    obtain ⟨y, e1, g1⟩ := f1 n x d e
    obtain ⟨z, e2, g2⟩ := f2 n x y e1
    exact ⟨z, e2, fun m => (g2 m).trans (g1 m)⟩
  hq := fun i M L h => by
    obtain ⟨M1, h1, f1⟩ := b.hq i M L h
    obtain ⟨M2, h2, f2⟩ := a.hq i M1 L h1
    refine ⟨M2, h2, fun n c x e m => ?_⟩
    obtain ⟨y, e1⟩ := f1 n c x e m
    exact f2 n c y e1 m
theorem Fr.held (k : Fr σ st Hs H σ1 st1 Hs1 H1) {i : Nat} {o : O} (e : st1[i]? = some (some o)) (hh : held o = true) {a : Addr} (q : σ1[i]? = some (some (.ref a))) : Hel σ st a ∨ H a = none := by
  cases o with
  | d x => cases hh
  | h M L => cases hh
  | l p xs =>
    rcases k.own a (.inl ⟨i, p, xs, e, q⟩) with z | z
    · exact .inl z.hel
    · exact .inr z
  | k p xs =>
    obtain ⟨e1, e2⟩ := k.kk i p xs e
    exact .inl (.inl ⟨i, _, e1, rfl, by rw [← e2]; exact q⟩)
theorem Fr.hel (k : Fr σ st Hs H σ1 st1 Hs1 H1) {a : Addr} (h : Hel σ1 st1 a) : Hel σ st a ∨ H a = none := by
  rcases h with ⟨i, o, e, hh, q⟩ | ⟨i, M, L, n, x, e, q⟩
  · exact k.held e hh q
  · by_cases hn : n ∈ L
    · obtain ⟨M', e1, f⟩ := k.hq i M L e
      obtain ⟨y, e2⟩ := f n a x q hn
      exact .inl (.inr ⟨i, M', L, n, y, e1, e2⟩)
    · rcases k.own a (.inr ⟨i, M, L, n, x, e, q, hn⟩) with z | z
      · exact .inl z.hel
      · exact .inr z

/-- a result, at a value -/
def RRep (σ : L2.St) (st : St) (Hs H : Hp) (v : V) : R → Prop
  | .v (.d x) => Sh Hs x v
  | .v (.l _ xs) => ∃ a vs, v = .ref a ∧ H a = some (.lst vs) ∧ ShA Hs xs vs ∧ Hs a = none ∧ ¬ Hel σ st a
  | .v (.k _ _) => False
  | .v (.h _ _) => False
  | .r i => σ[i]? = some (some v) ∧ ∃ o, st[i]? = some (some o)
  | .c i a n => v = .ref a ∧ ∃ M L x, st[i]? = some (some (.h M L)) ∧ M[n]? = some (a, x)
/-- the address of a list that no variable holds yet -/
def tmp : R → V → List Addr
  | .v (.l _ _), .ref a => [a]
  | _, _ => []
theorem RRep.lift {v : V} {r : R} (h : RRep σ st Hs H v r) (k : Fr σ st Hs H σ st1 Hs1 H1) : RRep σ st1 Hs1 H1 v r := by
  cases r with
  | v o =>
    cases o with
    | d x => exact Sh.mono k.sub h
    | k p xs => exact h
    | h M L => exact h
    | l p xs =>
      obtain ⟨a, vs, e, h1, h2, h3, h4⟩ := h
      have no : ¬ Own σ st a := fun z => h4 z.hel
      refine ⟨a, vs, e, k.keep a _ h1 no, ShA.mono k.sub h2, k.shr a h3 no (by rw [h1]; simp), fun z => ?_⟩
      rcases k.hel z with z | z
      · exact h4 z
      · rw [h1] at z; cases z
  | r i =>
    obtain ⟨e, o, q⟩ := h
    exact ⟨e, k.bd i o q⟩
  | c i a n =>
    obtain ⟨e, M, L, x, q, r⟩ := h
    obtain ⟨M', q', f⟩ := k.hp i M L q
    obtain ⟨y, r', _⟩ := f n a x r
    exact ⟨e, M', L, y, q', r'⟩
/-- read as data -/
def RV (Hs H : Hp) : D → V → Prop
  | .lst xs, v => ∃ a vs, v = .ref a ∧ H a = some (.lst vs) ∧ ShA Hs xs vs
  | .dcK ks vs, v => ∃ a us, v = .ref a ∧ H a = some (.dK (ks.zip us)) ∧ ks.length = us.length ∧ ShA Hs vs us
  | .dcT ks vs, v => ∃ a us, v = .ref a ∧ H a = some (.dT (ks.zip us)) ∧ ks.length = us.length ∧ ShA Hs vs us
  | x, v => Sh Hs x v
theorem CellR.rv {Hs H : Hp} {a : Addr} {x : D} (h : CellR Hs H a x) : RV Hs H x (.ref a) := by
  cases x <;> first | exact h.elim | (obtain ⟨vs, e⟩ := h; exact ⟨a, vs, rfl, e⟩)
theorem RV.sh {x : D} {v : V} (sub : Same Hs H) (h : RV Hs H x v) : Sh H x v := by
  cases x with
  | lst xs =>
    obtain ⟨a, vs, e, h1, h2⟩ := h
    exact ⟨a, vs, e, h1, ShA.mono sub h2⟩
  | dcK ks vs =>
    obtain ⟨a, us, e, h1, l, h2⟩ := h
    exact ⟨a, us, e, h1, l, ShA.mono sub h2⟩
  | dcT ks vs =>
    obtain ⟨a, us, e, h1, l, h2⟩ := h
    exact ⟨a, us, e, h1, l, ShA.mono sub h2⟩
  | _ => exact Sh.mono sub h
theorem RV.of_sh {x : D} {v : V} (sub : Same Hs H) (h : Sh Hs x v) : RV Hs H x v := by
  cases x with
  | lst xs =>
    obtain ⟨a, vs, e, h1, h2⟩ := h
    exact ⟨a, vs, e, sub _ _ h1, h2⟩
  | dcK ks vs =>
    obtain ⟨a, us, e, h1, h2⟩ := h
    exact ⟨a, us, e, sub _ _ h1, h2⟩
  | dcT ks vs =>
    obtain ⟨a, us, e, h1, h2⟩ := h
    exact ⟨a, us, e, sub _ _ h1, h2⟩
  | _ => exact h
theorem Ok.view (k : Ok σ st Hs H) {v : V} {r : R} {x : D} (h : RRep σ st Hs H v r) (e : view r st = some x) : RV Hs H x v := by
  cases r with
  | v o =>
    cases e
    cases o with
    | d x => exact RV.of_sh k.sub h
    | l p xs =>
      obtain ⟨a, vs, e, h1, h2, _⟩ := h
      exact ⟨a, vs, e, h1, h2⟩
    | k p xs => exact h.elim
    | h M L => exact h.elim
  | c i a n =>
    obtain ⟨e1, M, L, y, q, r⟩ := h
    have e : (match cellAt st i n with | some (_, x) => some x | none => none) = some x := e
    simp only [cellAt, q, r] at e
    cases e
    subst e1
    exact ((k.rgn q).at_ n a _ r).2.rv
  | r i =>
    obtain ⟨e1, o, q⟩ := h
    have e : (match st[i]? with | some (some (.h _ _)) => none | some (some o) => some (oView o) | _ => none) = some x := e
    rw [q] at e
    obtain ⟨w, e2, rp⟩ := k.rep i o q
    rw [e1] at e2; cases e2
    cases o with
    | h M L => cases e
    | d x => cases e; exact RV.of_sh k.sub rp
    | l p xs =>
      cases e
      obtain ⟨a, vs, e, h1, h2, _⟩ := rp
      exact ⟨a, vs, e, h1, h2⟩
    | k p xs =>
      cases e
      obtain ⟨a, vs, e, h1, h2, _⟩ := rp
      exact ⟨a, vs, e, h1, h2⟩

/-! ### steps that lay something new -/
theorem same_upd {p : Addr} {o : HO} (h : Hs p = none) : Same Hs (upd Hs p o) := fun b x e => by
  rw [upd_ne (ne_of_none e h)]; exact e
theorem upd_none {p a : Addr} {o : HO} (h : upd H p o a = none) : H a = none := by
  by_cases e : a = p
  · subst e; rw [upd_same] at h; cases h
  · rw [upd_ne e] at h; exact h
theorem Same.free {a : Addr} (m : Same Hs H) (h : H a = none) : Hs a = none := by
  cases e : Hs a with
  | none => rfl
  | some o => rw [m a o e] at h; cases h
theorem Rgn.lay {M : List (Addr × D)} {p : Addr} {x : HO} (h : Rgn Hs H M) (n : H p = none) : Rgn Hs (upd H p x) M := h.to (fun _ _ q => q) fun i a y e => by
  obtain ⟨z, w⟩ := h.at_ i a y e
  obtain ⟨o, there⟩ := w.there
  exact ⟨fun o q => by rw [upd_ne (ne_of_none q n)]; exact q, z⟩
theorem Rgn.layS {M : List (Addr × D)} {p : Addr} {x : HO} (h : Rgn Hs H M) (sub : Same Hs H) (n : H p = none) : Rgn (upd Hs p x) (upd H p x) M := h.to (same_upd (Same.free sub n)) fun i a y e => by
  obtain ⟨z, w⟩ := h.at_ i a y e
  obtain ⟨o, there⟩ := w.there
  exact ⟨fun o q => by rw [upd_ne (ne_of_none q n)]; exact q, by rw [upd_ne (ne_of_none there n)]; exact z⟩
theorem Rep.lay {v : V} {o : O} {p : Addr} {x : HO} (h : Rep Hs H v o) (n : H p = none) : Rep Hs (upd H p x) v o := by
  cases o with
  | d y => exact h
  | l q xs =>
    obtain ⟨a, vs, e, h1, h2, h3⟩ := h
    exact ⟨a, vs, e, by rw [upd_ne (ne_of_none h1 n)]; exact h1, h2, h3⟩
  | k q xs =>
    obtain ⟨a, vs, e, h1, h2, h3⟩ := h
    exact ⟨a, vs, e, by rw [upd_ne (ne_of_none h1 n)]; exact h1, h2, h3⟩
  | h M L => exact ⟨h.1.lay n, h.2⟩
theorem Rep.layS {v : V} {o : O} {p : Addr} {x : HO} (h : Rep Hs H v o) (sub : Same Hs H) (n : H p = none) : Rep (upd Hs p x) (upd H p x) v o := by
  have ns := Same.free sub n
  have m := same_upd (o := x) ns
  cases o with
  | d y => exact Sh.mono m h
  | l q xs =>
    obtain ⟨a, vs, e, h1, h2, h3⟩ := h
    have ne := ne_of_none h1 n
    exact ⟨a, vs, e, by rw [upd_ne ne]; exact h1, ShA.mono m h2, by rw [upd_ne ne]; exact h3⟩
  | k q xs =>
    obtain ⟨a, vs, e, h1, h2, h3⟩ := h
    have ne := ne_of_none h1 n
    exact ⟨a, vs, e, by rw [upd_ne ne]; exact h1, ShA.mono m h2, by rw [upd_ne ne]; exact h3⟩
  | h M L => exact ⟨h.1.layS sub n, h.2⟩
theorem Ok.lay (k : Ok σ st Hs H) {p : Addr} {x : HO} (n : H p = none) : Ok σ st Hs (upd H p x) :=
  ⟨k.len, k.sub.trans (same_upd n), fun i o e => let ⟨v, q, r⟩ := k.rep i o e; ⟨v, q, r.lay n⟩, k.inj, k.apt, k.one⟩
theorem Fr.lay (k : Ok σ st Hs H) {p : Addr} {x : HO} (n : H p = none) : Fr σ st Hs H σ st Hs (upd H p x) :=
  ⟨fun _ _ h => h, fun a o h _ => same_upd n a o h, fun _ h => upd_none h, fun _ h => .inl h, fun _ h _ _ => h, fun _ _ _ h => ⟨h, rfl⟩, fun _ _ h => ⟨h, rfl⟩, fun _ xs h => ⟨xs, h, rfl⟩, fun _ o h => ⟨o, h⟩, rfl, fun _ M _ h => ⟨M, h, fun _ _ x e => ⟨x, e, fun _ => rfl⟩⟩, fun _ M _ h => ⟨M, h, fun _ _ x e _ => ⟨x, e⟩⟩⟩
theorem Ok.layS (k : Ok σ st Hs H) {p : Addr} {x : HO} (n : H p = none) : Ok σ st (upd Hs p x) (upd H p x) := by
  refine ⟨k.len, fun b y e => ?_, fun i o e => ?_, k.inj, k.apt, k.one⟩
  · by_cases hb : b = p
    · subst hb; rw [upd_same] at e ⊢; exact e
    · rw [upd_ne hb] at e ⊢; exact k.sub b y e
  · obtain ⟨v, q, r⟩ := k.rep i o e
    exact ⟨v, q, r.layS k.sub n⟩
theorem Fr.layS (k : Ok σ st Hs H) {p : Addr} {x : HO} (n : H p = none) : Fr σ st Hs H σ st (upd Hs p x) (upd H p x) :=
  ⟨same_upd (Same.free k.sub n), fun a o h _ => same_upd n a o h, fun _ h => upd_none h, fun _ h => .inl h, fun a h _ e => by
      rw [upd_ne (fun z => by subst z; exact e n)]; exact h, fun _ _ _ h => ⟨h, rfl⟩, fun _ _ h => ⟨h, rfl⟩, fun _ xs h => ⟨xs, h, rfl⟩, fun _ o h => ⟨o, h⟩, rfl, fun _ M _ h => ⟨M, h, fun _ _ x e => ⟨x, e, fun _ => rfl⟩⟩, fun _ M _ h => ⟨M, h, fun _ _ x e _ => ⟨x, e⟩⟩⟩
/-- a value that an operation gives -/
def Grow (Hs H Hs' H' : Hp) (z : O) (v : V) : Prop :=
  (H' = H ∧ Hs' = Hs ∧ ∃ w, z = .d w ∧ Sh Hs w v) ∨
  (∃ p o w, H p = none ∧ H' = upd H p o ∧ Hs' = upd Hs p o ∧ z = .d w ∧ Sh Hs' w v) ∨
  (∃ p vs b xs, H p = none ∧ v = .ref p ∧ H' = upd H p (.lst vs) ∧ Hs' = Hs ∧ z = .l b xs ∧ ShA Hs xs vs)
theorem Grow.sc {w : D} {v : V} (h : Sh Hs w v) : Grow Hs H Hs H (.d w) v := .inl ⟨rfl, rfl, w, rfl, h⟩
theorem Grow.tup {p : Addr} {xs : List D} {vs : List V} (sub : Same Hs H) (n : H p = none) (h : ShA Hs xs vs) : Grow Hs H (upd Hs p (.tup vs)) (upd H p (.tup vs)) (.d (.tup xs)) (.ref p) :=
  .inr (.inl ⟨p, _, _, n, rfl, rfl, rfl, p, vs, rfl, upd_same, ShA.mono (same_upd (Same.free sub n)) h⟩)
theorem Grow.lst {p : Addr} {b : Bool} {xs : List D} {vs : List V} (n : H p = none) (h : ShA Hs xs vs) : Grow Hs H Hs (upd H p (.lst vs)) (.l b xs) (.ref p) :=
  .inr (.inr ⟨p, vs, b, xs, n, rfl, rfl, rfl, rfl, h⟩)
/-- what a result may stand on: nothing that was another's -/
def Fresh (σ : L2.St) (st : St) (H : Hp) (v : V) (r : R) : Prop := ∀ a ∈ tmp r v, Own σ st a ∨ H a = none
theorem Ok.grow (k : Ok σ st Hs H) {z : O} {v : V} (g : Grow Hs H Hs1 H1 z v) : Ok σ st Hs1 H1 ∧ Fr σ st Hs H σ st Hs1 H1 ∧ RRep σ st Hs1 H1 v (.v z) ∧ Fresh σ st H v (.v z) := by
  rcases g with ⟨rfl, rfl, w, rfl, h⟩ | ⟨p, o, w, n, rfl, rfl, rfl, h⟩ | ⟨p, vs, b, xs, n, rfl, rfl, rfl, rfl, h⟩
  · exact ⟨k, Fr.refl, h, fun a ha => by simp [tmp] at ha⟩
  · exact ⟨k.layS n, Fr.layS k n, h, fun a ha => by simp [tmp] at ha⟩
  · refine ⟨k.lay n, Fr.lay k n, ⟨p, vs, rfl, upd_same, h, Same.free k.sub n, fun z => ?_⟩, fun a ha => ?_⟩
    · obtain ⟨⟨o, e⟩, _⟩ := k.own_at z
      rw [n] at e; cases e
    · have : a = p := by simpa [tmp] using ha
      subst this
      exact .inr n

/-! ### a list is shared from then on -/
theorem set_self {α : Type} {l : List α} {i : Nat} {x y : α} (h : l[i]? = some x) : (l.set i y)[i]? = some y := by
  rw [List.getElem?_set_self (List.getElem?_eq_some_iff.mp h).1]
theorem set_cases {α : Type} {l : List α} {i j : Nat} {y z : α} (h : (l.set i y)[j]? = some z) : (j = i ∧ z = y) ∨ (j ≠ i ∧ l[j]? = some z) := by
  rw [List.getElem?_set] at h
  split at h
  · rename_i e
    split at h
    · cases h; exact .inl ⟨e.symm, rfl⟩
    · cases h
  · rename_i e
    exact .inr ⟨fun q => e q.symm, h⟩
theorem upd_sub {a : Addr} {x : HO} (sub : Same Hs H) (h : H a = some x) : Same (upd Hs a x) H := fun b y e => by
  by_cases hb : b = a
  · subst hb; rw [upd_same] at e; cases e; exact h
  · rw [upd_ne hb] at e; exact sub b y e
/-- a variable's own list becomes shared -/
theorem Ok.share (k : Ok σ st Hs H) {i : Nat} {xs : List D} {v : V} (e : st[i]? = some (some (.l false xs))) (ev : σ[i]? = some (some v)) :
    ∃ Hs1, Ok σ (st.set i (some (.d (.lst xs)))) Hs1 H ∧ Fr σ st Hs H σ (st.set i (some (.d (.lst xs)))) Hs1 H ∧ Sh Hs1 (.lst xs) v := by
  obtain ⟨w, e2, a, vs, rfl, h1, h2, h3⟩ := k.rep i _ e
  rw [ev] at e2; cases e2
  have m : Same Hs (upd Hs a (.lst vs)) := same_upd h3
  have ow : Own σ st a := .inl ⟨i, false, xs, e, ev⟩
  have hl : HelS σ st a := ⟨i, _, e, rfl, ev⟩
  have sh : Sh (upd Hs a (.lst vs)) (.lst xs) (.ref a) := ⟨a, vs, rfl, upd_same, ShA.mono m h2⟩
  refine ⟨upd Hs a (.lst vs), ⟨by simpa using k.len, upd_sub k.sub h1, fun j o q => ?_, fun j j' p ys o b q1 q2 hh q3 q4 => ?_, fun b ⟨j, M, L, n, x, q1, q2⟩ ⟨j', o, q3, hh, q4⟩ => ?_, fun j j' M M' L L' q1 q2 => ?_⟩, ⟨m, fun _ _ h _ => h, fun _ h => h, fun b z => ?_, fun b z n _ => ?_, fun j p ys q => ?_, fun j ys q => ?_, fun j ys q => ?_, fun j o q => ?_, by simp, fun j M L q => ?_, fun j M L q => ?_⟩, sh⟩
  · rcases set_cases q with ⟨rfl, z⟩ | ⟨ne, q⟩
    · cases z; exact ⟨_, ev, sh⟩
    · obtain ⟨u, e3, r⟩ := k.rep j o q
      refine ⟨u, e3, ?_⟩
      cases o with
      | d y => exact Sh.mono m r
      | l p ys =>
        obtain ⟨b, ws, rfl, r1, r2, r3⟩ := r
        have hb : b ≠ a := fun z => by
          subst z
          exact ne (k.inj j i _ _ _ b q e rfl e3 ev)
        exact ⟨b, ws, rfl, r1, ShA.mono m r2, by rw [upd_ne hb]; exact r3⟩
      | k p ys =>
        obtain ⟨b, ws, rfl, r1, r2, r3⟩ := r
        have hb : b ≠ a := fun z => by
          subst z
          exact ne (k.inj i j _ _ _ b e q rfl ev e3).symm
        exact ⟨b, ws, rfl, r1, ShA.mono m r2, by rw [upd_ne hb]; exact r3⟩
      | h M L =>
        have inl := r.2
        have r : Rgn Hs H M := r.1
        refine ⟨?_, inl⟩
        refine r.to m fun n b x e4 => ⟨fun _ z => z, ?_⟩
        rw [upd_ne (fun z => k.apt b ⟨j, M, L, n, x, q, e4⟩ (by rw [z]; exact hl))]
        exact (r.at_ n b x e4).1
  · rcases set_cases q1 with ⟨rfl, z⟩ | ⟨_, q1⟩
    · cases z
    · rcases set_cases q2 with ⟨rfl, z⟩ | ⟨_, q2⟩
      · cases z; cases hh
      · exact k.inj j j' p ys o b q1 q2 hh q3 q4
  · rcases set_cases q1 with ⟨rfl, z⟩ | ⟨_, q1⟩
    · cases z
    · rcases set_cases q3 with ⟨rfl, z⟩ | ⟨_, q3⟩
      · cases z; cases hh
      · exact k.apt b ⟨j, M, L, n, x, q1, q2⟩ ⟨j', o, q3, hh, q4⟩
  · rcases set_cases q1 with ⟨rfl, z⟩ | ⟨_, q1⟩
    · cases z
    · rcases set_cases q2 with ⟨rfl, z⟩ | ⟨_, q2⟩
      · cases z
      · exact k.one j j' M M' L L' q1 q2
  · rcases z with ⟨j, p, ys, q, q2⟩ | ⟨j, M, L, n, x, q, q2⟩
    · rcases set_cases q with ⟨rfl, z⟩ | ⟨_, q⟩
      · cases z
      · exact .inl (.inl ⟨j, p, ys, q, q2⟩)
    · rcases set_cases q with ⟨rfl, z⟩ | ⟨_, q⟩
      · cases z
      · exact .inl (.inr ⟨j, M, L, n, x, q, q2⟩)
  · rw [upd_ne (fun e => n (by rw [e]; exact ow))]; exact z
  · rcases set_cases q with ⟨rfl, z⟩ | ⟨_, q⟩
    · cases z
    · exact ⟨q, rfl⟩
  · by_cases hj : j = i
    · subst hj; rw [e] at q; cases q
    · exact ⟨by rw [List.getElem?_set_ne (Ne.symm hj)]; exact q, rfl⟩
  · by_cases hj : j = i
    · subst hj; rw [e] at q; cases q
    · exact ⟨ys, by rw [List.getElem?_set_ne (Ne.symm hj)]; exact q, rfl⟩
  · by_cases hj : j = i
    · subst hj; exact ⟨_, set_self q⟩
    · exact ⟨o, by rw [List.getElem?_set_ne (Ne.symm hj)]; exact q⟩
  · have hj : j ≠ i := fun z => by subst z; rw [e] at q; cases q
    exact ⟨M, by rw [List.getElem?_set_ne (Ne.symm hj)]; exact q, fun _ _ x e => ⟨x, e, fun _ => rfl⟩⟩
  · rcases set_cases q with ⟨rfl, z⟩ | ⟨_, q⟩
    · cases z
    · exact ⟨M, q, fun _ _ x e _ => ⟨x, e⟩⟩
/-- a list that no variable holds becomes shared -/
theorem Ok.shareT (k : Ok σ st Hs H) {a : Addr} {vs : List V} (h1 : H a = some (.lst vs)) (h3 : Hs a = none) (nh : ¬ Hel σ st a) : Ok σ st (upd Hs a (.lst vs)) H := by
  have m : Same Hs (upd Hs a (.lst vs)) := same_upd h3
  refine ⟨k.len, upd_sub k.sub h1, fun j o q => ?_, k.inj, k.apt, k.one⟩
  obtain ⟨u, e3, r⟩ := k.rep j o q
  refine ⟨u, e3, ?_⟩
  cases o with
  | d y => exact Sh.mono m r
  | l p ys =>
    obtain ⟨b, ws, rfl, r1, r2, r3⟩ := r
    exact ⟨b, ws, rfl, r1, ShA.mono m r2, by rw [upd_ne (fun z => nh (.inl ⟨j, _, q, rfl, by rw [e3, z]⟩))]; exact r3⟩
  | k p ys =>
    obtain ⟨b, ws, rfl, r1, r2, r3⟩ := r
    exact ⟨b, ws, rfl, r1, ShA.mono m r2, by rw [upd_ne (fun z => nh (.inl ⟨j, _, q, rfl, by rw [e3, z]⟩))]; exact r3⟩
  | h M L =>
    have inl := r.2
    have r : Rgn Hs H M := r.1
    refine ⟨?_, inl⟩
    refine r.to m fun n b x e4 => ⟨fun _ z => z, ?_⟩
    rw [upd_ne (fun z => nh (.inr ⟨j, M, L, n, x, q, by rw [← z]; exact e4⟩))]
    exact (r.at_ n b x e4).1
end
end Itp

namespace Itp
variable [KF]
open PySem
open L2 (V Hp HO upd upd_same upd_ne ne_of ne_of_none Same)
section
variable {σ σ0 σ1 σ2 : L2.St} {st st0 st1 st2 : St} {Hs H Hs0 H0 Hs1 H1 Hs2 H2 : Hp}

/-! ### lists of results -/
def tmps : List R → List V → List Addr
  | r :: rs, v :: vs => tmp r v ++ tmps rs vs
  | _, _ => []
def RA (σ : L2.St) (st : St) (Hs H : Hp) : List R → List V → Prop
  | [], vs => vs = []
  | r :: rs, vs => ∃ v ws, vs = v :: ws ∧ RRep σ st Hs H v r ∧ RA σ st Hs H rs ws ∧ ∀ a ∈ tmp r v, a ∉ tmps rs ws
theorem RA.lift (k : Fr σ st Hs H σ st1 Hs1 H1) : ∀ {rs : List R} {vs : List V}, RA σ st Hs H rs vs → RA σ st1 Hs1 H1 rs vs
  | [], _, h => h
  | r :: rs, _, h => by
    obtain ⟨v, ws, e, a, b, c⟩ := h
    exact ⟨v, ws, e, a.lift k, RA.lift k b, c⟩
theorem RA.len : ∀ {rs : List R} {vs : List V}, RA σ st Hs H rs vs → rs.length = vs.length
  | [], _, h => by cases (show _ = [] from h); rfl
  | r :: rs, _, h => by
    obtain ⟨v, ws, e, a, b, c⟩ := h
    subst e
    simp [RA.len b]
theorem tmp_at {v : V} {r : R} (h : RRep σ st Hs H v r) {a : Addr} (ha : a ∈ tmp r v) : (∃ vs, H a = some (.lst vs)) ∧ Hs a = none ∧ ¬ Hel σ st a := by
  cases r with
  | r i => simp [tmp] at ha
  | c i b n => simp [tmp] at ha
  | v o =>
    cases o with
    | d x => simp [tmp] at ha
    | k p xs => exact h.elim
    | h M L => exact h.elim
    | l p xs =>
      obtain ⟨b, vs, rfl, h1, h2, h3, h4⟩ := h
      have : a = b := by simpa [tmp] using ha
      subst this
      exact ⟨⟨vs, h1⟩, h3, h4⟩
theorem tmps_at : ∀ {rs : List R} {vs : List V}, RA σ st Hs H rs vs → ∀ a ∈ tmps rs vs, (∃ ws, H a = some (.lst ws)) ∧ Hs a = none ∧ ¬ Hel σ st a
  | [], _, _, _, ha => by simp [tmps] at ha
  | r :: rs, _, h, a, ha => by
    obtain ⟨v, ws, rfl, q, b, c⟩ := h
    rcases List.mem_append.mp (show a ∈ tmp r v ++ tmps rs ws from ha) with z | z
    · exact tmp_at q z
    · exact tmps_at b a z
/-- a head in front of results that came behind it -/
theorem RA.cons {v : V} {r : R} {rs : List R} {vs : List V} (h : RRep σ st Hs H v r) (k : Fr σ st Hs H σ st1 Hs1 H1) (t : RA σ st1 Hs1 H1 rs vs) (f : ∀ a ∈ tmps rs vs, Own σ st a ∨ H a = none) : RA σ st1 Hs1 H1 (r :: rs) (v :: vs) := by
  refine ⟨v, vs, rfl, h.lift k, t, fun a ha hb => ?_⟩
  obtain ⟨⟨ws, e⟩, _, n⟩ := tmp_at h ha
  rcases f a hb with z | z
  · exact n z.hel
  · rw [e] at z; cases z
def FreshA (σ : L2.St) (st : St) (H : Hp) (vs : List V) (rs : List R) : Prop := ∀ a ∈ tmps rs vs, Own σ st a ∨ H a = none
theorem Fresh.back {v : V} {r : R} (f : Fresh σ st1 H1 v r) (k : Fr σ st Hs H σ st1 Hs1 H1) : Fresh σ st H v r := fun a ha => by
  rcases f a ha with z | z
  · exact k.own a z
  · exact .inr (k.dom a z)
theorem FreshA.back {vs : List V} {rs : List R} (f : FreshA σ st1 H1 vs rs) (k : Fr σ st Hs H σ st1 Hs1 H1) : FreshA σ st H vs rs := fun a ha => by
  rcases f a ha with z | z
  · exact k.own a z
  · exact .inr (k.dom a z)
theorem FreshA.cons {v : V} {r : R} {vs : List V} {rs : List R} (f : Fresh σ st H v r) (g : FreshA σ st H vs rs) : FreshA σ st H (v :: vs) (r :: rs) := fun a ha => by
  rcases List.mem_append.mp (show a ∈ tmp r v ++ tmps rs vs from ha) with z | z
  · exact f a z
  · exact g a z

/-! ### frozen -/
theorem RRep.shareT {a : Addr} {vs : List V} {v : V} {r : R} (h3 : Hs a = none) (h : RRep σ st Hs H v r) (na : a ∉ tmp r v) : RRep σ st (upd Hs a (.lst vs)) H v r := by
  have m : Same Hs (upd Hs a (.lst vs)) := same_upd h3
  cases r with
  | r i => exact h
  | c i b n => exact h
  | v o =>
    cases o with
    | d x => exact Sh.mono m h
    | k p xs => exact h
    | h M L => exact h
    | l p xs =>
      obtain ⟨b, ws, rfl, r1, r2, r3, r4⟩ := h
      refine ⟨b, ws, rfl, r1, ShA.mono m r2, ?_, r4⟩
      rw [upd_ne (fun z => na (by simp [tmp, z]))]
      exact r3
theorem RA.shareT {a : Addr} {us : List V} (h3 : Hs a = none) : ∀ {rs : List R} {vs : List V}, RA σ st Hs H rs vs → a ∉ tmps rs vs → RA σ st (upd Hs a (.lst us)) H rs vs
  | [], _, h, _ => h
  | r :: rs, _, h, na => by
    obtain ⟨v, ws, rfl, q, b, c⟩ := h
    have na : a ∉ tmp r v ++ tmps rs ws := na
    rw [List.mem_append, not_or] at na
    exact ⟨v, ws, rfl, q.shareT h3 na.1, RA.shareT h3 b na.2, c⟩
theorem froz_ok {v : V} {r : R} {x : D} {rs : List R} {ws : List V} (k : Ok σ st Hs H) (f : Fr σ0 st0 Hs0 H0 σ st Hs H) (h : RRep σ st Hs H v r) (fr : ∀ a ∈ tmp r v, Own σ0 st0 a ∨ H0 a = none) (e : froz r st = some (x, st1))
    (ra : RA σ st Hs H rs ws) (ap : ∀ a ∈ tmp r v, a ∉ tmps rs ws) : ∃ Hs1, Ok σ st1 Hs1 H ∧ Fr σ0 st0 Hs0 H0 σ st1 Hs1 H ∧ Sh Hs1 x v ∧ RA σ st1 Hs1 H rs ws ∧ Same Hs Hs1 := by
  cases r with
  | v o =>
    cases o with
    | d y =>
      simp only [froz, Option.some.injEq, Prod.mk.injEq] at e
      obtain ⟨rfl, rfl⟩ := e
      exact ⟨Hs, k, f, h, ra, fun _ _ z => z⟩
    | k p xs => simp [froz] at e
    | h M L => simp [froz] at e
    | l p xs =>
      simp only [froz, Option.some.injEq, Prod.mk.injEq] at e
      obtain ⟨rfl, rfl⟩ := e
      obtain ⟨a, vs, rfl, h1, h2, h3, h4⟩ := h
      have m : Same Hs (upd Hs a (.lst vs)) := same_upd h3
      have ma : a ∈ tmp (.v (.l p xs)) (.ref a) := by simp [tmp]
      refine ⟨upd Hs a (.lst vs), k.shareT h1 h3 h4, ⟨f.sub.trans m, f.keep, f.dom, f.own, fun b z n q => ?_, f.kk, f.kp, f.lp, f.bd, f.sz, f.hp, f.hq⟩, ⟨a, vs, rfl, upd_same, ShA.mono m h2⟩, ra.shareT h3 (ap a ma), m⟩
      have hb : b ≠ a := fun z2 => by
        subst z2
        rcases fr b ma with w | w
        · exact n w
        · exact q w
      rw [upd_ne hb]
      exact f.shr b z n q
  | c i a n =>
    simp only [froz, Option.some.injEq, Prod.mk.injEq] at e
    obtain ⟨rfl, rfl⟩ := e
    exact ⟨Hs, k, f, h.1, ra, fun _ _ z => z⟩
  | r i =>
    obtain ⟨ev, o, q⟩ := h
    simp only [froz, q] at e
    cases o with
    | h M L => simp at e
    | d y =>
      simp only [Option.some.injEq, Prod.mk.injEq] at e
      obtain ⟨rfl, rfl⟩ := e
      obtain ⟨w, e2, rp⟩ := k.rep i _ q
      rw [ev] at e2; cases e2
      exact ⟨Hs, k, f, rp, ra, fun _ _ z => z⟩
    | k p xs => simp at e
    | l p xs =>
      cases p with
      | true => simp at e
      | false =>
        simp only [Option.some.injEq, Prod.mk.injEq] at e
        obtain ⟨rfl, rfl⟩ := e
        obtain ⟨Hs1, k1, f1, sh⟩ := k.share q ev
        exact ⟨Hs1, k1, f.trans f1, sh, ra.lift f1, f1.sub⟩
theorem frozAll_ok (h0 : Fr σ0 st0 Hs0 H0 σ st Hs H) : ∀ {rs : List R} {vs : List V} {xs : List D} {st st1 : St} {Hs : Hp}, Ok σ st Hs H → Fr σ0 st0 Hs0 H0 σ st Hs H → RA σ st Hs H rs vs → (∀ a ∈ tmps rs vs, Own σ0 st0 a ∨ H0 a = none) →
    frozAll rs st = some (xs, st1) → ∃ Hs1, Ok σ st1 Hs1 H ∧ Fr σ0 st0 Hs0 H0 σ st1 Hs1 H ∧ ShA Hs1 xs vs ∧ Same Hs Hs1
  | [], vs, xs, st, st1, Hs, k, f, ra, fr, e => by
    simp only [frozAll, Option.some.injEq, Prod.mk.injEq] at e
    obtain ⟨rfl, rfl⟩ := e
    exact ⟨Hs, k, f, ra, fun _ _ z => z⟩
  | r :: rs, vs, xs, st, st1, Hs, k, f, ra, fr, e => by
    obtain ⟨v, ws, rfl, q, b, c⟩ := ra
    simp only [frozAll] at e
    cases e1 : froz r st with
    | none => rw [e1] at e; cases e
    | some p =>
      obtain ⟨x, s1⟩ := p
      rw [e1] at e
      simp only at e
      cases e2 : frozAll rs s1 with
      | none => rw [e2] at e; cases e
      | some p2 =>
        obtain ⟨ys, s2⟩ := p2
        rw [e2] at e
        simp only [Option.some.injEq, Prod.mk.injEq] at e
        obtain ⟨rfl, rfl⟩ := e
        obtain ⟨Hs1, k1, f1, sh, ra1, m1⟩ := froz_ok k f q (fun a ha => fr a (List.mem_append_left _ ha)) e1 b c
        obtain ⟨Hs2, k2, f2, sh2, m2⟩ := frozAll_ok h0 k1 f1 ra1 (fun a ha => fr a (List.mem_append_right _ ha)) e2
        exact ⟨Hs2, k2, f2, ⟨v, ws, rfl, Sh.mono m2 sh, sh2⟩, m1.trans m2⟩
/-- to be stored -/
theorem take_ok {v : V} {r : R} {o : O} (k : Ok σ st Hs H) (f : Fr σ0 st0 Hs0 H0 σ st Hs H) (h : RRep σ st Hs H v r) (fr : ∀ a ∈ tmp r v, Own σ0 st0 a ∨ H0 a = none) (e : take r st = some (o, st1)) :
    ∃ Hs1, Ok σ st1 Hs1 H ∧ Fr σ0 st0 Hs0 H0 σ st1 Hs1 H ∧ RRep σ st1 Hs1 H v (.v o) ∧ ∀ a ∈ tmp (.v o) v, Own σ0 st0 a ∨ H0 a = none := by
  cases r with
  | v o' =>
    cases o' with
    | d y =>
      simp only [take, Option.some.injEq, Prod.mk.injEq] at e
      obtain ⟨rfl, rfl⟩ := e
      exact ⟨Hs, k, f, h, fr⟩
    | k p xs => simp [take] at e
    | h M L => simp [take] at e
    | l p xs =>
      simp only [take, Option.some.injEq, Prod.mk.injEq] at e
      obtain ⟨rfl, rfl⟩ := e
      refine ⟨Hs, k, f, h, fun a ha => fr a ?_⟩
      obtain ⟨b, vs, rfl, _⟩ := h
      exact ha
  | c i a n =>
    simp only [take, Option.some.injEq, Prod.mk.injEq] at e
    obtain ⟨rfl, rfl⟩ := e
    exact ⟨Hs, k, f, h.1, fun a ha => by simp [tmp] at ha⟩
  | r i =>
    simp only [take] at e
    cases e1 : froz (.r i) st with
    | none => rw [e1] at e; cases e
    | some p =>
      obtain ⟨x, s1⟩ := p
      rw [e1] at e
      simp only [Option.some.injEq, Prod.mk.injEq] at e
      obtain ⟨rfl, rfl⟩ := e
      obtain ⟨Hs1, k1, f1, sh, _⟩ := froz_ok (rs := []) (ws := []) k f h fr e1 rfl (fun a ha => by simp [tmps])
      exact ⟨Hs1, k1, f1, sh, fun a ha => by simp [tmp] at ha⟩
/-- stored at a name -/
theorem put_ok {v : V} {o : O} {i : Nat} (k : Ok σ st Hs H) (f : Fr σ0 st0 Hs0 H0 σ st Hs H) (h : RRep σ st Hs H v (.v o)) (fr : ∀ a ∈ tmp (.v o) v, Own σ0 st0 a ∨ H0 a = none) (e : put i o st = some st1) :
    Ok (σ.set i (some v)) st1 Hs H ∧ Fr σ0 st0 Hs0 H0 (σ.set i (some v)) st1 Hs H ∧ i < σ.length := by
  have hi : i < st.length := by
    unfold put at e
    cases q : st[i]? with
    | none => rw [q] at e; cases e
    | some z => exact (List.getElem?_eq_some_iff.mp q).1
  have hs : i < σ.length := by rw [← k.len]; exact hi
  have e1 : st1 = st.set i (some o) := by
    unfold put at e
    split at e <;> first | (cases e; rfl) | cases e
  have np : (∀ xs, st[i]? ≠ some (some (.l true xs))) ∧ (∀ xs, st[i]? ≠ some (some (.k true xs))) ∧ ∀ M L, st[i]? ≠ some (some (.h M L)) := by
    unfold put at e
    refine ⟨fun xs q => ?_, fun xs q => ?_, fun M L q => ?_⟩ <;> (rw [q] at e; simp at e)
  have nh' : ∀ M L, o ≠ .h M L := fun M L z => by subst z; exact h
  subst e1
  have rp : Rep Hs H v o := by
    cases o with
    | d x => exact h
    | l p xs => obtain ⟨a, vs, e, h1, h2, h3, _⟩ := h; exact ⟨a, vs, e, h1, h2, h3⟩
    | k p xs => exact h.elim
    | h M L => exact h.elim
  have nh : ∀ a, held o = true → v = .ref a → ¬ Hel σ st a := by
    intro a hh hv
    cases o with
    | d x => cases hh
    | l p xs => obtain ⟨b, vs, e, _, _, _, n⟩ := h; rw [hv] at e; cases e; exact n
    | k p xs => exact h.elim
    | h M L => exact h.elim
  have at_ : ∀ {j : Nat} {w : V}, (σ.set i (some v))[j]? = some (some w) → (j = i ∧ w = v) ∨ (j ≠ i ∧ σ[j]? = some (some w)) := fun {j w} q => by
    rcases set_cases q with ⟨a, b⟩ | ⟨a, b⟩
    · cases b; exact .inl ⟨a, rfl⟩
    · exact .inr ⟨a, b⟩
  have nek : ∀ p xs, o = .k p xs → False := fun p xs z => by subst z; exact h
  refine ⟨⟨by simpa using k.len, k.sub, fun j o' q => ?_, fun j j' p xs o' a q1 q2 hh q3 q4 => ?_, fun a ⟨j, M, L, n, x, q1, q2⟩ ⟨j', o', q3, hh, q4⟩ => ?_, fun j j' M M' L L' q1 q2 => ?_⟩, ⟨f.sub, f.keep, f.dom, fun a z => ?_, f.shr, fun j p xs q => ?_, fun j xs q => ?_, fun j xs q => ?_, fun j o' q => ?_, by simpa using f.sz, fun j M L q => ?_, fun j M L q => ?_⟩, hs⟩
  · rcases set_cases q with ⟨rfl, z⟩ | ⟨ne, q⟩
    · cases z; exact ⟨v, by rw [List.getElem?_set_self hs], rp⟩
    · obtain ⟨w, e2, r⟩ := k.rep j o' q
      exact ⟨w, by rw [List.getElem?_set_ne (Ne.symm ne)]; exact e2, r⟩
  · rcases set_cases q1 with ⟨e1, z1⟩ | ⟨n1, q1⟩
    · cases z1
      rcases set_cases q2 with ⟨e2, z2⟩ | ⟨n2, q2⟩
      · rw [e1, e2]
      · rcases at_ q3 with ⟨_, z3⟩ | ⟨n3, _⟩
        · rcases at_ q4 with ⟨e4, _⟩ | ⟨_, q4⟩
          · exact absurd e4 n2
          · exact absurd (.inl ⟨j', o', q2, hh, q4⟩) (nh a rfl z3.symm)
        · exact absurd e1 n3
    · rcases at_ q3 with ⟨e3, _⟩ | ⟨_, q3⟩
      · exact absurd e3 n1
      · rcases set_cases q2 with ⟨e2, z2⟩ | ⟨n2, q2⟩
        · cases z2
          rcases at_ q4 with ⟨_, z4⟩ | ⟨n4, _⟩
          · exact absurd (.inl ⟨j, _, q1, rfl, q3⟩) (nh a hh z4.symm)
          · exact absurd e2 n4
        · rcases at_ q4 with ⟨e4, _⟩ | ⟨_, q4⟩
          · exact absurd e4 n2
          · exact k.inj j j' p xs o' a q1 q2 hh q3 q4
  · rcases set_cases q1 with ⟨_, z1⟩ | ⟨_, q1⟩
    · exact (nh' _ _ (Option.some.inj z1).symm).elim
    · rcases set_cases q3 with ⟨e3, z3⟩ | ⟨n3, q3⟩
      · cases z3
        rcases at_ q4 with ⟨_, z4⟩ | ⟨n4, _⟩
        · exact absurd (.inr ⟨j, M, L, n, x, q1, q2⟩) (nh a hh z4.symm)
        · exact absurd e3 n4
      · rcases at_ q4 with ⟨e4, _⟩ | ⟨_, q4⟩
        · exact absurd e4 n3
        · exact k.apt a ⟨j, M, L, n, x, q1, q2⟩ ⟨j', o', q3, hh, q4⟩
  · rcases set_cases q1 with ⟨_, z1⟩ | ⟨_, q1⟩
    · exact (nh' _ _ (Option.some.inj z1).symm).elim
    · rcases set_cases q2 with ⟨_, z2⟩ | ⟨_, q2⟩
      · exact (nh' _ _ (Option.some.inj z2).symm).elim
      · exact k.one j j' M M' L L' q1 q2
  · rcases z with ⟨j, p, xs, q1, q2⟩ | ⟨j, M, L, n, x, q1, q2⟩
    · rcases set_cases q1 with ⟨e1, z1⟩ | ⟨n1, q1⟩
      · cases z1
        rcases at_ q2 with ⟨_, z2⟩ | ⟨n2, _⟩
        · exact fr a (by rw [← z2]; simp [tmp])
        · exact absurd e1 n2
      · rcases at_ q2 with ⟨e2, _⟩ | ⟨_, q2⟩
        · exact absurd e2 n1
        · exact f.own a (.inl ⟨j, p, xs, q1, q2⟩)
    · rcases set_cases q1 with ⟨_, z1⟩ | ⟨_, q1⟩
      · exact (nh' _ _ (Option.some.inj z1).symm).elim
      · exact f.own a (.inr ⟨j, M, L, n, x, q1, q2⟩)
  · rcases set_cases q with ⟨_, z⟩ | ⟨ne, q⟩
    · exact (nek p xs (Option.some.inj z).symm).elim
    · obtain ⟨a, b⟩ := f.kk j p xs q
      exact ⟨a, by rw [List.getElem?_set_ne (Ne.symm ne)]; exact b⟩
  · obtain ⟨a, b⟩ := f.kp j xs q
    have ne : j ≠ i := fun z => by subst z; exact np.2.1 _ a
    exact ⟨by rw [List.getElem?_set_ne (Ne.symm ne)]; exact a, by rw [List.getElem?_set_ne (Ne.symm ne)]; exact b⟩
  · obtain ⟨ys, a, b⟩ := f.lp j xs q
    have ne : j ≠ i := fun z => by subst z; exact np.1 _ a
    exact ⟨ys, by rw [List.getElem?_set_ne (Ne.symm ne)]; exact a, by rw [List.getElem?_set_ne (Ne.symm ne)]; exact b⟩
  · obtain ⟨o1, a⟩ := f.bd j o' q
    by_cases ne : j = i
    · subst ne; exact ⟨o, set_self a⟩
    · exact ⟨o1, by rw [List.getElem?_set_ne (Ne.symm ne)]; exact a⟩
  · obtain ⟨M', a, b⟩ := f.hp j M L q
    have ne : j ≠ i := fun z => by subst z; exact np.2.2 _ _ a
    exact ⟨M', by rw [List.getElem?_set_ne (Ne.symm ne)]; exact a, b⟩
  · rcases set_cases q with ⟨_, z1⟩ | ⟨_, q⟩
    · exact (nh' _ _ (Option.some.inj z1).symm).elim
    · exact f.hq j M L q
/-- a variable's own list is changed -/
theorem Ok.chg (k : Ok σ st Hs H) {i : Nat} {p : Bool} {xs ys : List D} {a : Addr} {vs ws : List V} (e : st[i]? = some (some (.l p xs))) (ev : σ[i]? = some (some (.ref a))) (h1 : H a = some (.lst vs)) (hw : ShA Hs ys ws) :
    Ok σ (st.set i (some (.l p ys))) Hs (upd H a (.lst ws)) ∧ Fr σ st Hs H σ (st.set i (some (.l p ys))) Hs (upd H a (.lst ws)) := by
  obtain ⟨w, e2, b, us, eb, h1', h2, h3⟩ := k.rep i _ e
  rw [ev] at e2; cases e2; cases eb
  have ow : Own σ st a := .inl ⟨i, p, xs, e, ev⟩
  have hl : HelS σ st a := ⟨i, _, e, rfl, ev⟩
  refine ⟨⟨by simpa using k.len, fun b x q => ?_, fun j o q => ?_, fun j j' p' xs' o b q1 q2 hh q3 q4 => ?_, fun b ⟨j, M, L, n, x, q1, q2⟩ ⟨j', o, q3, hh, q4⟩ => ?_, fun j j' M M' L L' q1 q2 => ?_⟩, ⟨fun _ _ h => h, fun b o h n => ?_, fun b z => upd_none z, fun b z => .inl ?_, fun b z _ _ => z, fun j p' zs q => ?_, fun j zs q => ?_, fun j zs q => ?_, fun j o q => ?_, by simp, fun j M L q => ?_, fun j M L q => ?_⟩⟩
  · rw [upd_ne (fun z => by subst z; rw [h3] at q; cases q)]; exact k.sub b x q
  · rcases set_cases q with ⟨rfl, z⟩ | ⟨ne, q⟩
    · cases z; exact ⟨_, ev, a, ws, rfl, upd_same, hw, h3⟩
    · obtain ⟨u, e3, r⟩ := k.rep j o q
      refine ⟨u, e3, ?_⟩
      cases o with
      | d y => exact r
      | l q' zs =>
        obtain ⟨b, bs, rfl, r1, r2, r3⟩ := r
        exact ⟨b, bs, rfl, by rw [upd_ne (fun z => by subst z; exact ne (k.inj j i _ _ _ b q e rfl e3 ev))]; exact r1, r2, r3⟩
      | k q' zs =>
        obtain ⟨b, bs, rfl, r1, r2, r3⟩ := r
        exact ⟨b, bs, rfl, by rw [upd_ne (fun z => by subst z; exact ne (k.inj i j _ _ _ b e q rfl ev e3).symm)]; exact r1, r2, r3⟩
      | h M L =>
        have inl := r.2
        have r : Rgn Hs H M := r.1
        refine ⟨?_, inl⟩
        refine r.to (fun _ _ q => q) fun n b x e4 => ⟨fun o z => ?_, (r.at_ n b x e4).1⟩
        rw [upd_ne (fun z => k.apt b ⟨j, M, L, n, x, q, e4⟩ (by rw [z]; exact hl))]
        exact z
  · have b1 : ∃ zs, st[j]? = some (some (.l p' zs)) := by
      rcases set_cases q1 with ⟨e1, z1⟩ | ⟨_, q1⟩
      · cases z1; exact ⟨xs, by rw [e1]; exact e⟩
      · exact ⟨_, q1⟩
    have b2 : ∃ o2, st[j']? = some (some o2) ∧ held o2 = true := by
      rcases set_cases q2 with ⟨e1, z1⟩ | ⟨_, q2⟩
      · exact ⟨_, by rw [e1]; exact e, rfl⟩
      · exact ⟨_, q2, hh⟩
    obtain ⟨zs, b1⟩ := b1
    obtain ⟨o2, b2, hh2⟩ := b2
    exact k.inj j j' p' zs o2 b b1 b2 hh2 q3 q4
  · rcases set_cases q1 with ⟨_, z1⟩ | ⟨_, q1⟩
    · cases z1
    · rcases set_cases q3 with ⟨e3, z3⟩ | ⟨_, q3⟩
      · exact k.apt b ⟨j, M, L, n, x, q1, q2⟩ ⟨i, _, e, rfl, by rw [← e3]; exact q4⟩
      · exact k.apt b ⟨j, M, L, n, x, q1, q2⟩ ⟨j', o, q3, hh, q4⟩
  · rcases set_cases q1 with ⟨_, z1⟩ | ⟨_, q1⟩
    · cases z1
    · rcases set_cases q2 with ⟨_, z2⟩ | ⟨_, q2⟩
      · cases z2
      · exact k.one j j' M M' L L' q1 q2
  · rw [upd_ne (fun z => n (by rw [z]; exact ow))]; exact h
  · rcases z with ⟨j, p', zs, q1, q2⟩ | ⟨j, M, L, n, x, q1, q2⟩
    · rcases set_cases q1 with ⟨e1, z1⟩ | ⟨_, q1⟩
      · cases z1; exact .inl ⟨i, p, xs, e, by rw [← e1]; exact q2⟩
      · exact .inl ⟨j, p', zs, q1, q2⟩
    · rcases set_cases q1 with ⟨_, z1⟩ | ⟨_, q1⟩
      · cases z1
      · exact .inr ⟨j, M, L, n, x, q1, q2⟩
  · rcases set_cases q with ⟨_, z⟩ | ⟨_, q⟩
    · cases z
    · exact ⟨q, rfl⟩
  · by_cases hj : j = i
    · subst hj; rw [e] at q; cases q
    · exact ⟨by rw [List.getElem?_set_ne (Ne.symm hj)]; exact q, rfl⟩
  · by_cases hj : j = i
    · subst hj; rw [e] at q; cases q; exact ⟨ys, set_self e, rfl⟩
    · exact ⟨zs, by rw [List.getElem?_set_ne (Ne.symm hj)]; exact q, rfl⟩
  · by_cases hj : j = i
    · subst hj; exact ⟨_, set_self q⟩
    · exact ⟨o, by rw [List.getElem?_set_ne (Ne.symm hj)]; exact q⟩
  · have hj : j ≠ i := fun z => by subst z; rw [e] at q; cases q
    exact ⟨M, by rw [List.getElem?_set_ne (Ne.symm hj)]; exact q, fun _ _ x e => ⟨x, e, fun _ => rfl⟩⟩
  · rcases set_cases q with ⟨_, z⟩ | ⟨_, q⟩
    · cases z
    · exact ⟨M, q, fun _ _ x e _ => ⟨x, e⟩⟩
theorem Ok.lst_at (k : Ok σ st Hs H) {i : Nat} {p : Bool} {xs : List D} {v : V} (e : st[i]? = some (some (.l p xs))) (ev : σ[i]? = some (some v)) : ∃ a vs, v = .ref a ∧ H a = some (.lst vs) ∧ ShA Hs xs vs ∧ Hs a = none := by
  obtain ⟨w, e2, r⟩ := k.rep i _ e
  rw [ev] at e2; cases e2
  exact r

/-! ### locked, unlocked -/
def lk1 : Option O → Option O
  | some (.l p xs) => some (.k p xs)
  | o => o
def ul1 : Option O → Option O
  | some (.k p xs) => some (.l p xs)
  | o => o
theorem lk1_lk1 (o : Option O) : lk1 (lk1 o) = lk1 o := by
  cases o with
  | none => rfl
  | some o => cases o <;> rfl
theorem ul1_ul1 (o : Option O) : ul1 (ul1 o) = ul1 o := by
  cases o with
  | none => rfl
  | some o => cases o <;> rfl
theorem lock_at : ∀ (L : List Nat) (s : St) (i : Nat), (lock L s)[i]? = if i ∈ L then s[i]?.map lk1 else s[i]?
  | [], s, i => by simp [lock]
  | j :: L, s, i => by
    have one : (lockAt j s)[i]? = if i = j then s[i]?.map lk1 else s[i]? := by
      unfold lockAt
      by_cases hij : i = j
      · subst hij
        rw [if_pos rfl]
        cases q : s[i]? with
        | none => simp [q]
        | some o =>
          cases o with
          | none => simp [q, lk1]
          | some o => cases o <;> simp [q, lk1, set_self q]
      · rw [if_neg hij]
        split
        · rw [List.getElem?_set_ne (Ne.symm hij)]
        · rfl
    unfold lock
    rw [lock_at L, one]
    by_cases hij : i = j
    · subst hij
      rw [if_pos rfl, if_pos List.mem_cons_self]
      split
      · cases s[i]? <;> simp [lk1_lk1]
      · rfl
    · simp [List.mem_cons, hij]
theorem unlock_at : ∀ (L : List Nat) (s : St) (i : Nat), (unlock L s)[i]? = if i ∈ L then s[i]?.map ul1 else s[i]?
  | [], s, i => by simp [unlock]
  | j :: L, s, i => by
    have one : (unlockAt j s)[i]? = if i = j then s[i]?.map ul1 else s[i]? := by
      unfold unlockAt
      by_cases hij : i = j
      · subst hij
        rw [if_pos rfl]
        cases q : s[i]? with
        | none => simp [q]
        | some o =>
          cases o with
          | none => simp [q, ul1]
          | some o => cases o <;> simp [q, ul1, set_self q]
      · rw [if_neg hij]
        split
        · rw [List.getElem?_set_ne (Ne.symm hij)]
        · rfl
    unfold unlock
    rw [unlock_at L, one]
    by_cases hij : i = j
    · subst hij
      rw [if_pos rfl, if_pos List.mem_cons_self]
      split
      · cases s[i]? <;> simp [ul1_ul1]
      · rfl
    · simp [List.mem_cons, hij]
theorem lock_len (L : List Nat) (s : St) : (lock L s).length = s.length := by
  induction L generalizing s with
  | nil => rfl
  | cons j L ih => unfold lock; rw [ih]; unfold lockAt; split <;> simp
theorem unlock_len (L : List Nat) (s : St) : (unlock L s).length = s.length := by
  induction L generalizing s with
  | nil => rfl
  | cons j L ih => unfold unlock; rw [ih]; unfold unlockAt; split <;> simp
theorem lent_at : ∀ {rs : List R} {s : St} {i : Nat}, i ∈ lent rs s → ∃ p xs, s[i]? = some (some (.l p xs))
  | [], _, _, h => by simp [lent] at h
  | .v _ :: rs, s, i, h => lent_at (rs := rs) (by simpa [lent] using h)
  | .c _ _ _ :: rs, s, i, h => lent_at (rs := rs) (by simpa [lent] using h)
  | .r j :: rs, s, i, h => by
    unfold lent at h
    split at h
    · rename_i p xs q
      rcases List.mem_cons.mp h with e | h
      · subst e; exact ⟨_, _, q⟩
      · exact lent_at h
    · exact lent_at h
theorem lock_cases {L : List Nat} {s : St} {i : Nat} {o : O} (h : (lock L s)[i]? = some (some o)) : (s[i]? = some (some o) ∧ (i ∈ L → ∀ p xs, o ≠ .l p xs)) ∨ (i ∈ L ∧ ∃ p xs, s[i]? = some (some (.l p xs)) ∧ o = .k p xs) := by
  rw [lock_at] at h
  split at h
  · rename_i hi
    cases q : s[i]? with
    | none => rw [q] at h; cases h
    | some z =>
      rw [q] at h
      cases z with
      | none => cases h
      | some z =>
        cases z with
        | d x => cases h; exact .inl ⟨rfl, fun _ _ _ z => by cases z⟩
        | k p xs => cases h; exact .inl ⟨rfl, fun _ _ _ z => by cases z⟩
        | h M L => cases h; exact .inl ⟨rfl, fun _ _ _ z => by cases z⟩
        | l p xs => cases h; exact .inr ⟨hi, p, xs, rfl, rfl⟩
  · rename_i hi
    exact .inl ⟨h, fun z => absurd z hi⟩
theorem unlock_cases {L : List Nat} {s : St} {i : Nat} {o : O} (h : (unlock L s)[i]? = some (some o)) : (s[i]? = some (some o) ∧ (i ∈ L → ∀ p xs, o ≠ .k p xs)) ∨ (i ∈ L ∧ ∃ p xs, s[i]? = some (some (.k p xs)) ∧ o = .l p xs) := by
  rw [unlock_at] at h
  split at h
  · rename_i hi
    cases q : s[i]? with
    | none => rw [q] at h; cases h
    | some z =>
      rw [q] at h
      cases z with
      | none => cases h
      | some z =>
        cases z with
        | d x => cases h; exact .inl ⟨rfl, fun _ _ _ z => by cases z⟩
        | l p xs => cases h; exact .inl ⟨rfl, fun _ _ _ z => by cases z⟩
        | h M L => cases h; exact .inl ⟨rfl, fun _ _ _ z => by cases z⟩
        | k p xs => cases h; exact .inr ⟨hi, p, xs, rfl, rfl⟩
  · rename_i hi
    exact .inl ⟨h, fun z => absurd z hi⟩
theorem lock_h {L : List Nat} {s : St} {i : Nat} {M : List (Addr × D)} {N : List Nat} : (lock L s)[i]? = some (some (.h M N)) ↔ s[i]? = some (some (.h M N)) := by
  rw [lock_at]
  split
  · cases q : s[i]? with
    | none => simp
    | some z => cases z with
      | none => simp [lk1]
      | some z => cases z <;> simp [lk1]
  · rfl
theorem unlock_h {L : List Nat} {s : St} {i : Nat} {M : List (Addr × D)} {N : List Nat} : (unlock L s)[i]? = some (some (.h M N)) ↔ s[i]? = some (some (.h M N)) := by
  rw [unlock_at]
  split
  · cases q : s[i]? with
    | none => simp
    | some z => cases z with
      | none => simp [ul1]
      | some z => cases z <;> simp [ul1]
  · rfl
theorem Ok.lock (k : Ok σ st Hs H) (L : List Nat) : Ok σ (lock L st) Hs H := by
  refine ⟨by rw [lock_len]; exact k.len, k.sub, fun i o q => ?_, fun i j p xs o a q1 q2 hh q3 q4 => ?_, fun a ⟨j, M, N, n, x, q1, q2⟩ ⟨j', o, q3, hh, q4⟩ => ?_, fun i j M M' N N' q1 q2 => k.one i j M M' N N' (lock_h.mp q1) (lock_h.mp q2)⟩
  · rcases lock_cases q with ⟨q, _⟩ | ⟨_, p, xs, z, rfl⟩
    · exact k.rep i o q
    · exact k.rep i (O.l p xs) z
  · have b1 : ∃ zs, st[i]? = some (some (.l p zs)) := by
      rcases lock_cases q1 with ⟨q, _⟩ | ⟨_, p', xs', q, z⟩
      · exact ⟨_, q⟩
      · cases z
    have b2 : ∃ o2, st[j]? = some (some o2) ∧ held o2 = true := by
      rcases lock_cases q2 with ⟨q, _⟩ | ⟨_, p', xs', q, z⟩
      · exact ⟨_, q, hh⟩
      · exact ⟨_, q, rfl⟩
    obtain ⟨zs, b1⟩ := b1
    obtain ⟨o2, b2, h2⟩ := b2
    exact k.inj i j p zs o2 a b1 b2 h2 q3 q4
  · refine k.apt a ⟨j, M, N, n, x, lock_h.mp q1, q2⟩ ?_
    rcases lock_cases q3 with ⟨q, _⟩ | ⟨_, p', xs', q, z⟩
    · exact ⟨j', o, q, hh, q4⟩
    · exact ⟨j', _, q, rfl, q4⟩
theorem unlock_ok {L : List Nat} (hL : ∀ i ∈ L, ∃ p xs, st[i]? = some (some (.l p xs))) (k : Ok σ st Hs H) (f : Fr σ (lock L st) Hs H σ1 st1 Hs1 H1) (k1 : Ok σ1 st1 Hs1 H1) :
    Ok σ1 (unlock L st1) Hs1 H1 ∧ Fr σ st Hs H σ1 (unlock L st1) Hs1 H1 := by
  have ownL : ∀ a, Own σ (lock L st) a → Own σ st a := fun a z => by
    rcases z with ⟨i, p, xs, q1, q2⟩ | ⟨i, M, N, n, x, q1, q2⟩
    · rcases lock_cases q1 with ⟨q, _⟩ | ⟨_, p', xs', q, z⟩
      · exact .inl ⟨i, p, xs, q, q2⟩
      · cases z
    · exact .inr ⟨i, M, N, n, x, lock_h.mp q1, q2⟩
  -- a slot that is unlocked stands as it was
  have at_ : ∀ {i p xs}, i ∈ L → st1[i]? = some (some (.k p xs)) → st[i]? = some (some (.l p xs)) ∧ σ1[i]? = σ[i]? := fun {i p xs} hi q => by
    obtain ⟨q1, e⟩ := f.kk i p xs q
    refine ⟨?_, e⟩
    rcases lock_cases q1 with ⟨q2, _⟩ | ⟨_, p', xs', q2, z⟩
    · obtain ⟨p2, xs2, q3⟩ := hL i hi
      rw [q2] at q3; cases q3
    · cases z; exact q2
  refine ⟨⟨by rw [unlock_len]; exact k1.len, k1.sub, fun i o q => ?_, fun i j p xs o a q1 q2 hh q3 q4 => ?_, fun a ⟨j, M, N, n, x, q1, q2⟩ ⟨j', o, q3, hh, q4⟩ => ?_, fun i j M M' N N' q1 q2 => k1.one i j M M' N N' (unlock_h.mp q1) (unlock_h.mp q2)⟩, ⟨f.sub, fun a o h n => f.keep a o h fun z => n (ownL a z), f.dom, fun a z => ?_, fun a h n e => f.shr a h (fun z => n (ownL a z)) e, fun i p xs q => ?_, fun i xs q => ?_, fun i xs q => ?_, fun i o q => ?_, by rw [unlock_len, f.sz, lock_len], fun i M N q => ?_, fun i M N q => ?_⟩⟩
  · rcases unlock_cases q with ⟨q, _⟩ | ⟨_, p, xs, z, rfl⟩
    · exact k1.rep i o q
    · exact k1.rep i (O.k p xs) z
  · have b2 : ∃ o2, st1[j]? = some (some o2) ∧ held o2 = true := by
      rcases unlock_cases q2 with ⟨q, _⟩ | ⟨_, p', xs', q, z⟩
      · exact ⟨_, q, hh⟩
      · exact ⟨_, q, rfl⟩
    obtain ⟨o2, b2, h2⟩ := b2
    rcases unlock_cases q1 with ⟨q, _⟩ | ⟨hi, p', xs', q, z⟩
    · exact k1.inj i j p xs o2 a q b2 h2 q3 q4
    · cases z
      obtain ⟨a1, a2⟩ := at_ hi q
      have s3 : σ[i]? = some (some (.ref a)) := by rw [← a2]; exact q3
      have ha : ∃ vs, H a = some (.lst vs) := by
        obtain ⟨_, vs, e1, e2, _⟩ := k.lst_at a1 s3
        cases e1; exact ⟨vs, e2⟩
      obtain ⟨vs, ha⟩ := ha
      cases o2 with
      | d x => cases h2
      | h M N => cases h2
      | l p2 xs2 =>
        rcases f.own a (.inl ⟨j, p2, xs2, b2, q4⟩) with (z | z) | z
        · obtain ⟨j0, p3, xs3, w1, w2⟩ := z
          rcases lock_cases w1 with ⟨w, wn⟩ | ⟨_, p', xs', w, z⟩
          · have e0 := k.inj j0 i p3 xs3 _ a w a1 rfl w2 s3
            subst e0
            exact absurd rfl (wn hi p3 xs3)
          · cases z
        · obtain ⟨j0, M, N, n, x, w1, w2, _⟩ := z
          exact absurd ⟨i, _, a1, rfl, s3⟩ (k.apt a ⟨j0, M, N, n, x, lock_h.mp w1, w2⟩)
        · rw [ha] at z; cases z
      | k p2 xs2 =>
        obtain ⟨w1, w2⟩ := f.kk j p2 xs2 b2
        have w3 : σ[j]? = some (some (.ref a)) := by rw [← w2]; exact q4
        rcases lock_cases w1 with ⟨w, _⟩ | ⟨_, p', xs', w, _⟩
        · exact k.inj i j _ _ _ a a1 w rfl s3 w3
        · exact k.inj i j _ _ _ a a1 w rfl s3 w3
  · refine k1.apt a ⟨j, M, N, n, x, unlock_h.mp q1, q2⟩ ?_
    rcases unlock_cases q3 with ⟨q, _⟩ | ⟨_, p', xs', q, z⟩
    · exact ⟨j', o, q, hh, q4⟩
    · exact ⟨j', _, q, rfl, q4⟩
  · rcases z with ⟨i, p, xs, q1, q2⟩ | ⟨i, M, N, n, x, q1, q2⟩
    · rcases unlock_cases q1 with ⟨q, _⟩ | ⟨hi, p', xs', q, z⟩
      · rcases f.own a (.inl ⟨i, p, xs, q, q2⟩) with z | z
        · exact .inl (ownL a z)
        · exact .inr z
      · obtain ⟨a1, a2⟩ := at_ hi q
        exact .inl (.inl ⟨i, _, _, a1, by rw [← a2]; exact q2⟩)
    · rcases f.own a (.inr ⟨i, M, N, n, x, unlock_h.mp q1, q2⟩) with z | z
      · exact .inl (ownL a z)
      · exact .inr z
  · rcases unlock_cases q with ⟨q, n⟩ | ⟨_, p', xs', q, z⟩
    · obtain ⟨q1, e⟩ := f.kk i p xs q
      rcases lock_cases q1 with ⟨q2, _⟩ | ⟨hi, p', xs', q2, z⟩
      · exact ⟨q2, e⟩
      · exact absurd rfl (n hi p xs)
    · cases z
  · have ni : i ∉ L := fun hi => by
      obtain ⟨p, ys, z⟩ := hL i hi
      rw [q] at z; cases z
    obtain ⟨a, b⟩ := f.kp i xs (by rw [lock_at, if_neg ni]; exact q)
    exact ⟨by rw [unlock_at, if_neg ni]; exact a, b⟩
  · by_cases hi : i ∈ L
    · obtain ⟨a, b⟩ := f.kp i xs (by rw [lock_at, if_pos hi, q]; rfl)
      exact ⟨xs, by rw [unlock_at, if_pos hi, a]; rfl, b⟩
    · obtain ⟨ys, a, b⟩ := f.lp i xs (by rw [lock_at, if_neg hi]; exact q)
      exact ⟨ys, by rw [unlock_at, if_neg hi]; exact a, b⟩
  · have b : ∃ o2, (Itp.lock L st)[i]? = some (some o2) := by
      rw [lock_at]
      split
      · rw [q]; cases o <;> exact ⟨_, rfl⟩
      · exact ⟨_, q⟩
    obtain ⟨o2, b⟩ := b
    obtain ⟨o3, c⟩ := f.bd i o2 b
    rw [unlock_at]
    split
    · rw [c]; cases o3 <;> exact ⟨_, rfl⟩
    · exact ⟨_, c⟩
  · obtain ⟨M', a, b⟩ := f.hp i M N (lock_h.mpr q)
    exact ⟨M', unlock_h.mpr a, b⟩
  · obtain ⟨M', a, b⟩ := f.hq i M N (unlock_h.mp q)
    exact ⟨M', lock_h.mp a, b⟩
theorem RRep.unlock {L : List Nat} {v : V} {r : R} (h : RRep σ st Hs H v r) : RRep σ (unlock L st) Hs H v r := by
  cases r with
  | r i =>
    obtain ⟨e, o, q⟩ := h
    refine ⟨e, ?_⟩
    rw [unlock_at]
    split
    · rw [q]; cases o <;> exact ⟨_, rfl⟩
    · exact ⟨_, q⟩
  | c i a n =>
    obtain ⟨e, M, N, x, q, r⟩ := h
    exact ⟨e, M, N, x, unlock_h.mpr q, r⟩
  | v o =>
    cases o with
    | d x => exact h
    | k p xs => exact h
    | h M N => exact h
    | l p xs =>
      obtain ⟨a, vs, e, h1, h2, h3, h4⟩ := h
      refine ⟨a, vs, e, h1, h2, h3, fun z => h4 ?_⟩
      rcases z with ⟨i, o, q1, q2, q3⟩ | ⟨i, M, N, n, x, q1, q2⟩
      · rcases unlock_cases q1 with ⟨q, _⟩ | ⟨_, p', xs', q, z⟩
        · exact .inl ⟨i, o, q, q2, q3⟩
        · exact .inl ⟨i, _, q, rfl, q3⟩
      · exact .inr ⟨i, M, N, n, x, unlock_h.mp q1, q2⟩
theorem RRep.lock {L : List Nat} {v : V} {r : R} (h : RRep σ st Hs H v r) : RRep σ (lock L st) Hs H v r := by
  cases r with
  | r i =>
    obtain ⟨e, o, q⟩ := h
    refine ⟨e, ?_⟩
    rw [lock_at]
    split
    · rw [q]; cases o <;> exact ⟨_, rfl⟩
    · exact ⟨_, q⟩
  | c i a n =>
    obtain ⟨e, M, N, x, q, r⟩ := h
    exact ⟨e, M, N, x, lock_h.mpr q, r⟩
  | v o =>
    cases o with
    | d x => exact h
    | k p xs => exact h
    | h M N => exact h
    | l p xs =>
      obtain ⟨a, vs, e, h1, h2, h3, h4⟩ := h
      refine ⟨a, vs, e, h1, h2, h3, fun z => h4 ?_⟩
      rcases z with ⟨i, o, q1, q2, q3⟩ | ⟨i, M, N, n, x, q1, q2⟩
      · rcases lock_cases q1 with ⟨q, _⟩ | ⟨_, p', xs', q, z⟩
        · exact .inl ⟨i, o, q, q2, q3⟩
        · exact .inl ⟨i, _, q, rfl, q3⟩
      · exact .inr ⟨i, M, N, n, x, lock_h.mp q1, q2⟩
/-! ### cells locked, unlocked -/
theorem lockC_cases {s : St} {h j i : Nat} {o : Option O} (e : (lockC h j s)[i]? = some o) : (s[i]? = some o ∧ (i = h → ∀ M L, o ≠ some (.h M L))) ∨ (i = h ∧ ∃ M L, s[h]? = some (some (.h M L)) ∧ o = some (.h M (j :: L))) := by
  unfold lockC at e
  split at e
  · rename_i M L q
    by_cases hi : i = h
    · subst hi
      rw [set_self q] at e; cases e
      exact .inr ⟨rfl, M, L, q, rfl⟩
    · rw [List.getElem?_set_ne (Ne.symm hi)] at e
      exact .inl ⟨e, fun z => absurd z hi⟩
  · rename_i n
    exact .inl ⟨e, fun z M L z2 => by subst z; subst z2; exact n M L e⟩
theorem unlockC_cases {s : St} {h i : Nat} {o : Option O} (e : (unlockC h s)[i]? = some o) : (s[i]? = some o ∧ (i = h → ∀ M L, o ≠ some (.h M L))) ∨ (i = h ∧ ∃ M L, s[h]? = some (some (.h M L)) ∧ o = some (.h M L.tail)) := by
  unfold unlockC at e
  split at e
  · rename_i M L q
    by_cases hi : i = h
    · subst hi
      rw [set_self q] at e; cases e
      exact .inr ⟨rfl, M, L, q, rfl⟩
    · rw [List.getElem?_set_ne (Ne.symm hi)] at e
      exact .inl ⟨e, fun z => absurd z hi⟩
  · rename_i n
    exact .inl ⟨e, fun z M L z2 => by subst z; subst z2; exact n M L e⟩
theorem lockC_h {s : St} {h j : Nat} {M : List (Addr × D)} {L : List Nat} (e : s[h]? = some (some (.h M L))) : (lockC h j s)[h]? = some (some (.h M (j :: L))) := by
  unfold lockC; rw [e]; exact set_self e
theorem unlockC_h {s : St} {h : Nat} {M : List (Addr × D)} {L : List Nat} (e : s[h]? = some (some (.h M L))) : (unlockC h s)[h]? = some (some (.h M L.tail)) := by
  unfold unlockC; rw [e]; exact set_self e
theorem lockC_ne {s : St} {h j i : Nat} (n : i ≠ h ∨ ∀ M L, s[i]? ≠ some (some (O.h M L))) : (lockC h j s)[i]? = s[i]? := by
  unfold lockC
  split
  · rename_i M L q
    have : i ≠ h := n.elim id fun n' z => by rw [z] at n'; exact n' M L q
    rw [List.getElem?_set_ne (Ne.symm this)]
  · rfl
theorem unlockC_ne {s : St} {h i : Nat} (n : i ≠ h ∨ ∀ M L, s[i]? ≠ some (some (O.h M L))) : (unlockC h s)[i]? = s[i]? := by
  unfold unlockC
  split
  · rename_i M L q
    have : i ≠ h := n.elim id fun n' z => by rw [z] at n'; exact n' M L q
    rw [List.getElem?_set_ne (Ne.symm this)]
  · rfl
theorem lockC_len {s : St} {h j : Nat} : (lockC h j s).length = s.length := by unfold lockC; split <;> simp
theorem unlockC_len {s : St} {h : Nat} : (unlockC h s).length = s.length := by unfold unlockC; split <;> simp
theorem lockC_slot {s : St} {h j i : Nat} {o : O} (e : (lockC h j s)[i]? = some (some o)) (n : ∀ M L, o ≠ .h M L) : s[i]? = some (some o) := by
  rcases lockC_cases e with ⟨q, _⟩ | ⟨_, M, L, _, z⟩
  · exact q
  · cases z; exact absurd rfl (n _ _)
theorem unlockC_slot {s : St} {h i : Nat} {o : O} (e : (unlockC h s)[i]? = some (some o)) (n : ∀ M L, o ≠ .h M L) : s[i]? = some (some o) := by
  rcases unlockC_cases e with ⟨q, _⟩ | ⟨_, M, L, _, z⟩
  · exact q
  · cases z; exact absurd rfl (n _ _)
theorem held_nh {o : O} (hh : held o = true) : ∀ M L, o ≠ .h M L := fun M L z => by subst z; cases hh
theorem lockC_reg {s : St} {h j i : Nat} {M : List (Addr × D)} {L : List Nat} (e : (lockC h j s)[i]? = some (some (.h M L))) : ∃ L0, s[i]? = some (some (.h M L0)) ∧ ((i ≠ h ∧ L = L0) ∨ (i = h ∧ L = j :: L0)) := by
  rcases lockC_cases e with ⟨q, n⟩ | ⟨rfl, M', L', q, z⟩
  · exact ⟨L, q, .inl ⟨fun z => n z M L rfl, rfl⟩⟩
  · cases z; exact ⟨L', q, .inr ⟨rfl, rfl⟩⟩
theorem unlockC_reg {s : St} {h i : Nat} {M : List (Addr × D)} {L : List Nat} (e : (unlockC h s)[i]? = some (some (.h M L))) : ∃ L0, s[i]? = some (some (.h M L0)) ∧ ((i ≠ h ∧ L = L0) ∨ (i = h ∧ L = L0.tail)) := by
  rcases unlockC_cases e with ⟨q, n⟩ | ⟨rfl, M', L', q, z⟩
  · exact ⟨L, q, .inl ⟨fun z => n z M L rfl, rfl⟩⟩
  · cases z; exact ⟨L', q, .inr ⟨rfl, rfl⟩⟩
theorem Ok.lockC (k : Ok σ st Hs H) {h j : Nat} (hj : ∀ M L, st[h]? = some (some (O.h M L)) → j < M.length) : Ok σ (lockC h j st) Hs H := by
  refine ⟨by rw [lockC_len]; exact k.len, k.sub, fun i o q => ?_, fun i i' p xs o a q1 q2 hh q3 q4 => ?_, fun a ⟨i, M, L, n, x, q1, q2⟩ ⟨i', o, q3, hh, q4⟩ => ?_, fun i i' M M' L L' q1 q2 => ?_⟩
  · cases o with
    | h M L =>
      obtain ⟨L0, q0, z⟩ := lockC_reg q
      obtain ⟨v, e, r⟩ := k.rep i _ q0
      refine ⟨v, e, r.1, ?_⟩
      rcases z with ⟨_, rfl⟩ | ⟨rfl, rfl⟩
      · exact r.2
      · intro n hn
        rcases List.mem_cons.mp hn with rfl | hn
        · exact hj M L0 q0
        · exact r.2 n hn
    | _ => exact k.rep i _ (lockC_slot q fun M L z => by cases z)
  · exact k.inj i i' p xs o a (lockC_slot q1 fun M L z => by cases z) (lockC_slot q2 (held_nh hh)) hh q3 q4
  · obtain ⟨L0, q0, _⟩ := lockC_reg q1
    exact k.apt a ⟨i, M, L0, n, x, q0, q2⟩ ⟨i', o, lockC_slot q3 (held_nh hh), hh, q4⟩
  · obtain ⟨L0, q0, _⟩ := lockC_reg q1
    obtain ⟨L1, q5, _⟩ := lockC_reg q2
    exact k.one i i' _ _ _ _ q0 q5
theorem unlockC_ok {h j : Nat} (f : Fr σ (lockC h j st) Hs H σ1 st1 Hs1 H1) (k1 : Ok σ1 st1 Hs1 H1) : Ok σ1 (unlockC h st1) Hs1 H1 ∧ Fr σ st Hs H σ1 (unlockC h st1) Hs1 H1 := by
  have ownL : ∀ a, Own σ (lockC h j st) a → Own σ st a := fun a z => by
    rcases z with ⟨i, p, xs, q1, q2⟩ | ⟨i, M, L, n, x, q1, q2, hn⟩
    · exact .inl ⟨i, p, xs, lockC_slot q1 (fun M L z => by cases z), q2⟩
    · obtain ⟨L0, q0, z⟩ := lockC_reg q1
      refine .inr ⟨i, M, L0, n, x, q0, q2, ?_⟩
      rcases z with ⟨_, rfl⟩ | ⟨_, rfl⟩
      · exact hn
      · exact fun z => hn (List.mem_cons_of_mem _ z)
  refine ⟨⟨by rw [unlockC_len]; exact k1.len, k1.sub, fun i o q => ?_, fun i i' p xs o a q1 q2 hh q3 q4 => ?_, fun a ⟨i, M, L, n, x, q1, q2⟩ ⟨i', o, q3, hh, q4⟩ => ?_, fun i i' M M' L L' q1 q2 => ?_⟩, ⟨f.sub, fun a o e n => f.keep a o e fun z => n (ownL a z), f.dom, fun a z => ?_, fun a e n q => f.shr a e (fun z => n (ownL a z)) q, fun i p xs q => ?_, fun i xs q => ?_, fun i xs q => ?_, fun i o q => ?_, by rw [unlockC_len, f.sz, lockC_len], fun i M L q => ?_, fun i M L q => ?_⟩⟩
  · cases o with
    | h M L =>
      obtain ⟨L0, q0, z⟩ := unlockC_reg q
      obtain ⟨v, e, r⟩ := k1.rep i _ q0
      refine ⟨v, e, r.1, fun n hn => r.2 n ?_⟩
      rcases z with ⟨_, rfl⟩ | ⟨rfl, rfl⟩
      · exact hn
      · exact List.mem_of_mem_tail hn
    | _ => exact k1.rep i _ (unlockC_slot q fun M L z => by cases z)
  · exact k1.inj i i' p xs o a (unlockC_slot q1 fun M L z => by cases z) (unlockC_slot q2 (held_nh hh)) hh q3 q4
  · obtain ⟨L0, q0, _⟩ := unlockC_reg q1
    exact k1.apt a ⟨i, M, L0, n, x, q0, q2⟩ ⟨i', o, unlockC_slot q3 (held_nh hh), hh, q4⟩
  · obtain ⟨L0, q0, _⟩ := unlockC_reg q1
    obtain ⟨L1, q5, _⟩ := unlockC_reg q2
    exact k1.one i i' _ _ _ _ q0 q5
  · rcases z with ⟨i, p, xs, q1, q2⟩ | ⟨i, M, L, n, x, q1, q2, hn⟩
    · rcases f.own a (.inl ⟨i, p, xs, unlockC_slot q1 (fun M L z => by cases z), q2⟩) with z | z
      · exact .inl (ownL a z)
      · exact .inr z
    · obtain ⟨L0, q0, z⟩ := unlockC_reg q1
      by_cases hm : n ∈ L0
      · obtain ⟨M0, e0, g⟩ := f.hq i M L0 q0
        obtain ⟨y, w⟩ := g n a x q2 hm
        obtain ⟨L2, e2, z2⟩ := lockC_reg e0
        refine .inl (.inr ⟨i, M0, L2, n, y, e2, w, ?_⟩)
        rcases z with ⟨hi, rfl⟩ | ⟨rfl, rfl⟩
        · exact absurd hm hn
        · rcases z2 with ⟨hi, _⟩ | ⟨_, rfl⟩
          · exact absurd rfl hi
          · exact hn
      · rcases f.own a (.inr ⟨i, M, L0, n, x, q0, q2, hm⟩) with z | z
        · exact .inl (ownL a z)
        · exact .inr z
  · obtain ⟨a, b⟩ := f.kk i p xs (unlockC_slot q fun M L z => by cases z)
    exact ⟨lockC_slot a (fun M L z => by cases z), b⟩
  · obtain ⟨a, b⟩ := f.kp i xs (by rw [lockC_ne (.inr fun M L z => by rw [q] at z; cases z)]; exact q)
    exact ⟨by rw [unlockC_ne (.inr fun M L z => by rw [a] at z; cases z)]; exact a, b⟩
  · obtain ⟨ys, a, b⟩ := f.lp i xs (by rw [lockC_ne (.inr fun M L z => by rw [q] at z; cases z)]; exact q)
    exact ⟨ys, by rw [unlockC_ne (.inr fun M L z => by rw [a] at z; cases z)]; exact a, b⟩
  · have b : ∃ o2, (Itp.lockC h j st)[i]? = some (some o2) := by
      unfold Itp.lockC
      split
      · rename_i M L q0
        by_cases hi : h = i
        · subst hi; exact ⟨_, set_self q0⟩
        · exact ⟨o, by rw [List.getElem?_set_ne hi]; exact q⟩
      · exact ⟨o, q⟩
    obtain ⟨o2, b⟩ := b
    obtain ⟨o3, c⟩ := f.bd i o2 b
    unfold unlockC
    split
    · rename_i M L q0
      by_cases hi : h = i
      · subst hi; exact ⟨_, set_self q0⟩
      · exact ⟨o3, by rw [List.getElem?_set_ne hi]; exact c⟩
    · exact ⟨o3, c⟩
  · by_cases hi : i = h
    · subst hi
      obtain ⟨M', a, b⟩ := f.hp i M (j :: L) (lockC_h q)
      refine ⟨M', by rw [unlockC_h a]; rfl, fun n a x e => ?_⟩
      obtain ⟨y, c, d⟩ := b n a x e
      exact ⟨y, c, fun hn => d (List.mem_cons_of_mem _ hn)⟩
    · obtain ⟨M', a, b⟩ := f.hp i M L (by rw [lockC_ne (.inl hi)]; exact q)
      exact ⟨M', by rw [unlockC_ne (.inl hi)]; exact a, b⟩
  · obtain ⟨L0, q0, z⟩ := unlockC_reg q
    obtain ⟨M', a, b⟩ := f.hq i M L0 q0
    obtain ⟨L2, e2, z2⟩ := lockC_reg a
    rcases z with ⟨hi, rfl⟩ | ⟨rfl, rfl⟩
    · rcases z2 with ⟨_, rfl⟩ | ⟨hi', _⟩
      · exact ⟨M', e2, b⟩
      · exact absurd hi' hi
    · rcases z2 with ⟨hi, _⟩ | ⟨_, rfl⟩
      · exact absurd rfl hi
      · exact ⟨M', e2, fun n a x e hn => b n a x e (List.mem_cons_of_mem _ hn)⟩
theorem Ok.lockCs : ∀ {cs : List (Nat × Nat)} {st : St}, Ok σ st Hs H → (∀ c ∈ cs, ∀ M L, st[c.1]? = some (some (O.h M L)) → c.2 < M.length) → Ok σ (lockCs cs st) Hs H
  | [], st, k, _ => k
  | (h, j) :: cs, st, k, v => Ok.lockCs (cs := cs) (k.lockC fun M L e => v (h, j) List.mem_cons_self M L e) fun c hc M L e => by
    obtain ⟨L0, q, _⟩ := lockC_reg e
    exact v c (List.mem_cons_of_mem _ hc) M L0 q
theorem unlockCs_ok : ∀ {cs : List (Nat × Nat)} {st : St}, Fr σ (lockCs cs st) Hs H σ1 st1 Hs1 H1 → Ok σ1 st1 Hs1 H1 → Ok σ1 (unlockCs cs st1) Hs1 H1 ∧ Fr σ st Hs H σ1 (unlockCs cs st1) Hs1 H1
  | [], st, f, k => ⟨k, f⟩
  | (h, j) :: cs, st, f, k => by
    obtain ⟨k2, f2⟩ := unlockCs_ok (cs := cs) (st := lockC h j st) f k
    exact unlockC_ok f2 k2
theorem lockCs_reg : ∀ {cs : List (Nat × Nat)} {s : St} {i : Nat} {M : List (Addr × D)} {L : List Nat}, (lockCs cs s)[i]? = some (some (.h M L)) → ∃ L0, s[i]? = some (some (.h M L0)) ∧ (∀ n ∈ L0, n ∈ L) ∧ ∀ c ∈ cs, c.1 = i → c.2 ∈ L
  | [], s, i, M, L, e => ⟨L, e, fun _ h => h, fun _ h => by cases h⟩
  | (h, j) :: cs, s, i, M, L, e => by
    obtain ⟨L1, e1, i1, c1⟩ := lockCs_reg (cs := cs) e
    obtain ⟨L0, e0, z⟩ := lockC_reg e1
    rcases z with ⟨hi, rfl⟩ | ⟨rfl, rfl⟩
    · refine ⟨L1, e0, i1, fun c hc z => ?_⟩
      rcases List.mem_cons.mp hc with rfl | hc
      · exact absurd z.symm hi
      · exact c1 c hc z
    · refine ⟨L0, e0, fun n hn => i1 n (List.mem_cons_of_mem _ hn), fun c hc z => ?_⟩
      rcases List.mem_cons.mp hc with rfl | hc
      · exact i1 _ List.mem_cons_self
      · exact c1 c hc z
theorem lockCs_slot : ∀ {cs : List (Nat × Nat)} {s : St} {i : Nat} {o : O}, (lockCs cs s)[i]? = some (some o) → (∀ M L, o ≠ .h M L) → s[i]? = some (some o)
  | [], s, i, o, e, _ => e
  | (h, j) :: cs, s, i, o, e, n => lockC_slot (lockCs_slot (cs := cs) e n) n
theorem RRep.lockC {h j : Nat} {v : V} {r : R} (x : RRep σ st Hs H v r) : RRep σ (lockC h j st) Hs H v r := by
  cases r with
  | r i =>
    obtain ⟨e, o, q⟩ := x
    refine ⟨e, ?_⟩
    unfold Itp.lockC
    split
    · rename_i M L q0
      by_cases hi : h = i
      · subst hi; exact ⟨_, set_self q0⟩
      · exact ⟨o, by rw [List.getElem?_set_ne hi]; exact q⟩
    · exact ⟨o, q⟩
  | c i a n =>
    obtain ⟨e, M, L, x, q, r⟩ := x
    refine ⟨e, M, ?_⟩
    by_cases hi : i = h
    · subst hi; exact ⟨j :: L, x, lockC_h q, r⟩
    · exact ⟨L, x, by rw [lockC_ne (.inl hi)]; exact q, r⟩
  | v o =>
    cases o with
    | d y => exact x
    | k p xs => exact x
    | h M L => exact x
    | l p xs =>
      obtain ⟨a, vs, e, h1, h2, h3, h4⟩ := x
      refine ⟨a, vs, e, h1, h2, h3, fun z => h4 ?_⟩
      rcases z with ⟨i, o, q1, q2, q3⟩ | ⟨i, M, L, n, x, q1, q2⟩
      · exact .inl ⟨i, o, lockC_slot q1 (held_nh q2), q2, q3⟩
      · obtain ⟨L0, q0, _⟩ := lockC_reg q1
        exact .inr ⟨i, M, L0, n, x, q0, q2⟩
theorem RRep.unlockC {h : Nat} {v : V} {r : R} (x : RRep σ st Hs H v r) : RRep σ (unlockC h st) Hs H v r := by
  cases r with
  | r i =>
    obtain ⟨e, o, q⟩ := x
    refine ⟨e, ?_⟩
    unfold Itp.unlockC
    split
    · rename_i M L q0
      by_cases hi : h = i
      · subst hi; exact ⟨_, set_self q0⟩
      · exact ⟨o, by rw [List.getElem?_set_ne hi]; exact q⟩
    · exact ⟨o, q⟩
  | c i a n =>
    obtain ⟨e, M, L, x, q, r⟩ := x
    refine ⟨e, M, ?_⟩
    by_cases hi : i = h
    · subst hi; exact ⟨L.tail, x, unlockC_h q, r⟩
    · exact ⟨L, x, by rw [unlockC_ne (.inl hi)]; exact q, r⟩
  | v o =>
    cases o with
    | d y => exact x
    | k p xs => exact x
    | h M L => exact x
    | l p xs =>
      obtain ⟨a, vs, e, h1, h2, h3, h4⟩ := x
      refine ⟨a, vs, e, h1, h2, h3, fun z => h4 ?_⟩
      rcases z with ⟨i, o, q1, q2, q3⟩ | ⟨i, M, L, n, x, q1, q2⟩
      · exact .inl ⟨i, o, unlockC_slot q1 (held_nh q2), q2, q3⟩
      · obtain ⟨L0, q0, _⟩ := unlockC_reg q1
        exact .inr ⟨i, M, L0, n, x, q0, q2⟩
theorem RRep.lockCs : ∀ {cs : List (Nat × Nat)} {st : St} {v : V} {r : R}, RRep σ st Hs H v r → RRep σ (lockCs cs st) Hs H v r
  | [], _, _, _, x => x
  | (h, j) :: cs, st, v, r, x => RRep.lockCs (cs := cs) x.lockC
theorem RRep.unlockCs : ∀ {cs : List (Nat × Nat)} {st : St} {v : V} {r : R}, RRep σ st Hs H v r → RRep σ (unlockCs cs st) Hs H v r
  | [], _, _, _, x => x
  | (h, j) :: cs, st, v, r, x => RRep.unlockC (RRep.unlockCs (cs := cs) x)
theorem cells_at : ∀ {rs : List R} {vs : List V}, RA σ st Hs H rs vs → ∀ c ∈ cellsOf rs, ∀ M L, st[c.1]? = some (some (O.h M L)) → c.2 < M.length
  | [], _, _, c, hc, _, _, _ => by cases hc
  | .v o :: rs, _, h, c, hc, M, L, e => by
    obtain ⟨v, ws, rfl, _, b, _⟩ := h
    exact cells_at (rs := rs) b c hc M L e
  | .r i :: rs, _, h, c, hc, M, L, e => by
    obtain ⟨v, ws, rfl, _, b, _⟩ := h
    exact cells_at (rs := rs) b c hc M L e
  | .c i a n :: rs, _, h, c, hc, M, L, e => by
    obtain ⟨v, ws, rfl, q, b, _⟩ := h
    rcases List.mem_cons.mp (show c ∈ (i, n) :: cellsOf rs from hc) with rfl | hc
    · obtain ⟨_, M', L', x, e1, e2⟩ := q
      rw [show st[i]? = some (some (O.h M L)) from e] at e1; cases e1
      exact (List.getElem?_eq_some_iff.mp e2).1
    · exact cells_at (rs := rs) b c hc M L e
theorem lk_own {rs : List R} {a : Addr} (z : Own σ (lk rs st) a) : Own σ st a := by
  rcases z with ⟨i, p, xs, q1, q2⟩ | ⟨i, M, N, n, x, q1, q2, hn⟩
  · have q3 := lockCs_slot q1 (fun M L z => by cases z)
    rcases lock_cases q3 with ⟨q, _⟩ | ⟨_, p', xs', q, z⟩
    · exact .inl ⟨i, p, xs, q, q2⟩
    · cases z
  · obtain ⟨L0, q0, g1, _⟩ := lockCs_reg q1
    exact .inr ⟨i, M, L0, n, x, lock_h.mp q0, q2, fun z => hn (g1 n z)⟩
theorem Ok.lk (k : Ok σ st Hs H) {rs : List R} {vs : List V} (ra : RA σ st Hs H rs vs) : Ok σ (lk rs st) Hs H := (k.lock _).lockCs fun c hc M L e => cells_at ra c hc M L (lock_h.mp e)
theorem ulk_ok {rs : List R} (k : Ok σ st Hs H) (f : Fr σ (lk rs st) Hs H σ1 st1 Hs1 H1) (k1 : Ok σ1 st1 Hs1 H1) : Ok σ1 (ulk rs st st1) Hs1 H1 ∧ Fr σ st Hs H σ1 (ulk rs st st1) Hs1 H1 := by
  unfold ulk
  have hc : ∀ {cs : List (Nat × Nat)} {s : St}, unlockCs cs (unlock (lent rs st) s) = unlock (lent rs st) (unlockCs cs s) := by
    intro cs
    induction cs with
    | nil => intro s; rfl
    | cons c cs ih =>
      intro s
      obtain ⟨h, j⟩ := c
      show unlockC h (unlockCs cs (unlock (lent rs st) s)) = unlock (lent rs st) (unlockC h (unlockCs cs s))
      rw [ih]
      generalize unlockCs cs s = s
      apply List.ext_getElem?
      intro i
      rw [unlock_at]
      by_cases hr : ∃ M L, s[h]? = some (some (O.h M L))
      · obtain ⟨M, L, hr⟩ := hr
        by_cases hi : i = h
        · subst hi
          rw [unlockC_h (unlock_h.mpr hr), unlockC_h hr]
          split <;> rfl
        · rw [unlockC_ne (.inl hi), unlockC_ne (.inl hi), unlock_at]
      · rw [unlockC_ne, unlockC_ne, unlock_at]
        · by_cases hi : i = h
          · subst hi; exact .inr fun M L z => hr ⟨M, L, z⟩
          · exact .inl hi
        · by_cases hi : i = h
          · subst hi; exact .inr fun M L z => hr ⟨M, L, unlock_h.mp z⟩
          · exact .inl hi
  rw [hc]
  obtain ⟨k2, f2⟩ := unlockCs_ok (cs := cellsOf rs) (st := lock (lent rs st) st) f k1
  exact unlock_ok (L := lent rs st) (fun i hi => lent_at hi) k f2 k2
theorem RRep.ulk {rs : List R} {v : V} {r : R} (h : RRep σ st Hs H v r) (s0 : St) : RRep σ (ulk rs s0 st) Hs H v r := h.unlock.unlockCs
theorem RRep.lk {rs : List R} {v : V} {r : R} (h : RRep σ st Hs H v r) (s0 : St) : RRep σ (Itp.lockCs (cellsOf rs) (Itp.lock (lent rs s0) st)) Hs H v r := h.lock.lockCs
end
end Itp

/-! Dic: dicts in the heap. -/
namespace Itp
variable [KF]
open PySem PySem.Spec PyProof.Rows
open L2 (V Hp HO upd upd_same upd_ne ne_of ne_of_none Same Cx Inv OpR IxR RelV EP VK kV DGet DPut valV putK)
section
variable {κ : Type} [DecidableEq κ] {Hs : Hp}
theorem dget_sh : ∀ {ks : List κ} {vs : List D} {us : List V} {k : κ}, ShA Hs vs us → ks.length = us.length →
    (∀ z, dget ks vs k = some z → ∃ w, valV (ks.zip us) k = some w ∧ Sh Hs z w) ∧ (dget ks vs k = none → valV (ks.zip us) k = none)
  | [], vs, us, k, h, l => ⟨fun z e => by simp [dget] at e, fun _ => rfl⟩
  | j :: ks, [], us, k, h, l => by
    cases (show us = [] from h)
    simp at l
  | j :: ks, v :: vs, us, k, h, l => by
    obtain ⟨u, r, rfl, q, t⟩ := h
    have l2 : ks.length = r.length := by simpa using l
    obtain ⟨h1, h2⟩ := dget_sh (ks := ks) (k := k) t l2
    unfold dget
    by_cases e : j = k
    · refine ⟨fun z ez => ?_, fun ez => ?_⟩
      · rw [if_pos e] at ez; cases ez
        exact ⟨u, L2.valV_pos (p := (j, u)) e, q⟩
      · rw [if_pos e] at ez; cases ez
    · refine ⟨fun z ez => ?_, fun ez => ?_⟩
      · rw [if_neg e] at ez
        obtain ⟨w, a, b⟩ := h1 z ez
        exact ⟨w, (L2.valV_neg (p := (j, u)) e).trans a, b⟩
      · rw [if_neg e] at ez
        exact (L2.valV_neg (p := (j, u)) e).trans (h2 ez)
theorem zip_any : ∀ {ks : List κ} {us : List V} {k : κ}, ks.length = us.length → ((ks.zip us).any fun kv => decide (kv.1 = k)) = decide (k ∈ ks)
  | [], us, k, l => by simp
  | j :: ks, [], k, l => by simp at l
  | j :: ks, u :: us, k, l => by
    have := zip_any (ks := ks) (us := us) (k := k) (by simpa using l)
    rw [List.zip_cons_cons, List.any_cons, this]
    by_cases e : j = k
    · subst e; simp
    · simp [e, Ne.symm e, List.mem_cons]
theorem dput_sh {ks : List κ} {vs : List D} {us : List V} {k : κ} {y : D} {v : V} (h : ShA Hs vs us) (l : ks.length = us.length) (hv : Sh Hs y v) :
    ∃ us', putK (ks.zip us) k v = (dput ks vs k y).1.zip us' ∧ (dput ks vs k y).1.length = us'.length ∧ ShA Hs (dput ks vs k y).2 us' := by
  unfold putK dput
  rw [zip_any l]
  by_cases e : k ∈ ks
  · rw [if_pos (by simpa using e), if_pos e]
    clear e
    induction ks generalizing vs us with
    | nil => exact ⟨[], by simp, rfl, rfl⟩
    | cons j ks ih =>
      cases us with
      | nil => simp at l
      | cons u us =>
        cases vs with
        | nil => cases (show (u :: us) = [] from h)
        | cons x vs =>
          obtain ⟨u', r, e1, q, t⟩ := h
          cases e1
          obtain ⟨us', a, b, c⟩ := ih t (by simpa using l)
          simp only at a b c
          refine ⟨(if j = k then v else u) :: us', ?_, by simp [b], (if j = k then v else u), us', rfl, ?_, c⟩
          · rw [List.zip_cons_cons, List.map_cons, a, List.zip_cons_cons]
            by_cases e : j = k <;> simp [e]
          · show Sh Hs (if j = k then y else x) _
            by_cases e : j = k
            · rw [if_pos e, if_pos e]; exact hv
            · rw [if_neg e, if_neg e]; exact q
  · rw [if_neg (by simpa using e), if_neg e]
    refine ⟨us ++ [v], ?_, by simp [l], h.app ⟨v, [], rfl, hv, rfl⟩⟩
    show ks.zip us ++ [(k, v)] = (ks ++ [k]).zip (us ++ [v])
    rw [List.zip_append l]; rfl
end
section
variable {Hs H : Hp}
theorem keyOf_v {y : D} {v : V} {k : L2.Key} (e : keyOf y = some k) (h : RV Hs H y v) : v = kV k := by
  cases y <;> simp [keyOf] at e <;> subst e <;> exact h
theorem keysOf_v : ∀ {ys : List D} {vs : List V} {ks : List L2.Key}, keysOf ys = some ks → ShA Hs ys vs → vs = ks.map kV
  | [], vs, ks, e, h => by cases e; exact h
  | y :: ys, vs, ks, e, h => by
    obtain ⟨v, r, rfl, q, t⟩ := h
    unfold keysOf at e
    split at e
    · rename_i k ks' e1 e2
      cases e
      rw [keyOf_v (H := Hs) e1 (RV.of_sh (fun _ _ z => z) q), keysOf_v e2 t]
      rfl
    · cases e
theorem some_eq {o : Option D} {o' : Option V} (g1 : ∀ z, o = some z → ∃ u, o' = some u ∧ Sh Hs z u) (g2 : o = none → o' = none) : o'.isSome = o.isSome := by
  cases o with
  | none => rw [g2 rfl]; rfl
  | some z => obtain ⟨u, e, _⟩ := g1 z rfl; rw [e]; rfl
/-- what stands at a key -/
theorem dGet_ok {x y : D} {Q : Option D → Prop} {v w : V} (sub : Same Hs H) (h : dGet x y Q) (hx : RV Hs H x v) (hy : RV Hs H y w) : ∃ a o o', v = .ref a ∧ DGet H a w o' ∧ Q o ∧ (∀ z, o = some z → ∃ u, o' = some u ∧ Sh Hs z u) ∧ (o = none → o' = none) := by
  unfold dGet at h
  split at h
  · obtain ⟨k, e, q⟩ := h
    obtain ⟨a, us, rfl, h1, l, h2⟩ := hx
    obtain ⟨g1, g2⟩ := dget_sh (k := k) h2 l
    exact ⟨a, _, _, rfl, by rw [keyOf_v e hy]; exact .k h1, q, g1, g2⟩
  · obtain ⟨k, e, q⟩ := h
    obtain ⟨a, us, rfl, h1, l, h2⟩ := hx
    obtain ⟨b, ws, rfl, h3, h4⟩ := hy
    obtain ⟨g1, g2⟩ := dget_sh (k := k) h2 l
    refine ⟨a, _, _, rfl, DGet.t h1 (b := b) (k := k) ?_, q, g1, g2⟩
    rw [← keysOf_v e h4]; exact sub _ _ h3
  · exact h.elim
theorem dPut_ok {x y d : D} {Q : D → Prop} {v w u : V} (sub : Same Hs H) (h : dPut x y d Q) (hx : RV Hs H x v) (hy : RV Hs H y w) (hd : Sh Hs d u) :
    ∃ a z ob, v = .ref a ∧ DPut H a w u (upd H a ob) ∧ Q z ∧ ∀ H', H' a = some ob → CellR Hs H' a z := by
  unfold dPut at h
  split at h
  · rename_i ks vs
    obtain ⟨k, e, ln, q⟩ := h
    obtain ⟨a, us, rfl, h1, l, h2⟩ := hx
    obtain ⟨us', g1, g2, g3⟩ := dput_sh (k := k) h2 l hd
    have hl : (ks.zip us).length < sizeLine := by
      rw [List.length_zip, ← l, Nat.min_self, sizeLine_eq]; exact ln
    have ek := keyOf_v e hy
    subst ek
    exact ⟨a, _, _, rfl, .k h1 hl, q, fun H' e => ⟨us', by rw [e, g1], g2, g3⟩⟩
  · rename_i ks vs ys
    obtain ⟨k, e, ln, q⟩ := h
    obtain ⟨a, us, rfl, h1, l, h2⟩ := hx
    obtain ⟨b, ws, rfl, h3, h4⟩ := hy
    obtain ⟨us', g1, g2, g3⟩ := dput_sh (k := k) h2 l hd
    have hl : (ks.zip us).length < sizeLine := by
      rw [List.length_zip, ← l, Nat.min_self, sizeLine_eq]; exact ln
    have hb : H b = some (.tup (k.map kV)) := by rw [← keysOf_v e h4]; exact sub _ _ h3
    exact ⟨a, _, _, rfl, DPut.t h1 (b := b) (k := k) hb hl, q, fun H' e => ⟨us', by rw [e, g1], g2, g3⟩⟩
  · exact h.elim
end
section
variable {X : Cx}
/-- d[y] of a value -/
theorem ix_dict (hu : X.A.units + 1 < cLine) : IxR X fun x y H Q => ∃ a v, x = .ref a ∧ DGet H a y (some v) ∧ Q v H := by
  intro va sl pins s σ H x y v u Q I rx ry h hs
  obtain ⟨a, z, rfl, g, q⟩ := h
  obtain rfl : v = Value.ref a := rx
  have hT := L2.dict_typeIs I g
  unfold subscriptTail
  refine wpAny_bind ?_
  rw [getitemInPython_of_ne hT.not_modules]
  refine wpAny_bind (wpAny_specialOf hT PySem.F.slot_dict_getitem.lookup ?_)
  have fin : wpAny (model X.prog X.w) X.A (subscripted sl false (Value.ref a) u) (fun r s₃ => wpAny (model X.prog X.w) X.A (letTemporaryGo va (Value.ref a) r >>= fun _ => pure r) (EP X pins σ Q) X.xe s₃) X.xe s := by
    rw [hs]
    exact wpAny_operating (wpAny_mono (L2.d_getItem (Q := EP X pins σ Q) hu I g ry fun w' s3 I3 rw' => ⟨z, H, I3, rw', q⟩) (fun r s₃ h₃ => wpAny_bind (wpAny_letTemporaryGo (wpAny_pure h₃))) fun _ _ x => x)
  first
    | exact wpAny_pure (wpAny_bind fin)
    | exact wpAny_bind (wpAny_pure (wpAny_bind fin))
    | exact wpAny_bind fin
theorem opD_in (hu : X.A.units + 1 < cLine) : OpR X (compareOp .In) fun y x H Q => ∃ a o, x = .ref a ∧ DGet H a y o ∧ Q (.bl o.isSome) H := by
  intro pins s σ H y x v u Q I ry rx h
  obtain ⟨a, o, rfl, g, q⟩ := h
  obtain rfl : u = Value.ref a := rx
  exact L2.d_in hu I g ry fun s3 I3 => ⟨.bl o.isSome, H, I3, rfl, q⟩
theorem opD_notIn (hu : X.A.units + 1 < cLine) : OpR X (compareOp .NotIn) fun y x H Q => ∃ a o, x = .ref a ∧ DGet H a y o ∧ Q (.bl (!o.isSome)) H := by
  intro pins s σ H y x v u Q I ry rx h
  obtain ⟨a, o, rfl, g, q⟩ := h
  obtain rfl : u = Value.ref a := rx
  exact L2.d_notIn hu I g ry fun s3 I3 => ⟨.bl (!o.isSome), H, I3, rfl, q⟩
/-- {k: v}, the key a tuple -/
theorem pe_dispT1 {k v : Expr} {pos : Pos} {tk tv : L2.TE} (hu : X.A.units + 1 < cLine) (hk : L2.PE X k tk) (hv : L2.PE X v tv) :
    L2.PE X (.Dict [some k] [v] pos) (fun σ H Q => ∀ p, H p = none → tk σ (upd H p (.dT [])) fun x H1 => tv σ H1 fun y H2 => H2 p = some (.dT []) ∧ ∃ (kk : List L2.Key) (b : Addr), x = .ref b ∧ H2 b = some (.tup (kk.map kV)) ∧ Q (.ref p) (upd H2 p (.dT [(kk, y)]))) := by
  refine ⟨fun pins s σ H Q I q => ?_⟩
  have hn := I.hok.fresh (Nat.le_refl s.heap.objs.size)
  have I1 := I.laid (a := s.heap.objs.size) (o := .dT []) (h' := s.heap.push { cls := .type "dict", data := .dict #[] }) (t' := s.toks) (fun _ _ q => Heap.get?_push_of_some _ q) (Nat.le_refl _) (L2.dt_empty s.heap I.big)
  have hshape := zip_pairTrees [some k] [v] X.env pos rfl rfl
  show wpAny (model X.prog X.w) X.A (eval (.Dict [some k] [v] pos) X.env) (EP X pins σ Q) X.xe s
  rw [arm_eval_Dict, hshape, dictDisplay_pairs _ (by intro z; cases z) (by show 1 < 17; decide)]
  refine wpAny_bind (wpAny_standAt (wpAny_bind (wpAny_subDictH (knd := tupleKind (L2.mixKind X.prog X.w)) (Q := fun d s' => wpAny (model X.prog X.w) X.A (pure (Value.ref d)) (EP X pins σ Q) X.xe s') (show X.A.units < cLine by omega) (by show 1 ≤ 15; decide) ?_)))
  refine pairTrees_cons_walk (L2.thn (hk.run pins _ σ _ _ I1 (q _ hn)) fun u s1 ⟨x, H1, I2, rx, q1⟩ => L2.thn (hv.run pins s1 σ H1 _ I2 q1) fun w2 s2 ⟨y, H2, I3, ry, e, kk, b, ex, eb, q2⟩ => pairTrees_nil_walk ?_)
  subst ex
  cases (show u = Value.ref b from rx)
  obtain ⟨z, hd, xs, rel, dd⟩ := L2.dt_of I3.hok e
  cases rel
  refine ⟨[(kk, b, w2)], ⟨rfl, rfl, L2.key_of I3.hok eb, True.intro⟩, dd, fun h' tk dd' hs => wpAny_pure ⟨.ref s.heap.objs.size, _, ?_, rfl, q2⟩⟩
  obtain ⟨o, es, ep, hq, h2, h3, h4, _, h5⟩ := dd'
  refine L2.d_write I3 (by rw [e]; exact True.intro) hs ⟨o, hq⟩ ⟨by rw [sizeLine_eq]; show 1 ≤ 16777216; decide, hd, _, .cons ⟨rfl, ?_, ry⟩ .nil, o, es, ep, hq, h2, h3, h4, h5⟩
  rw [upd_ne (ne_of eb e (fun z => nomatch z))]
  exact eb
end
end Itp

namespace Itp
variable [KF]
open PySem PySem.Spec PyProof.Rows
open L2 (V Hp HO upd upd_same upd_ne ne_of ne_of_none Same Cx Inv OpR CallR MtR IxR SlR PSet TruR Room RelV EP VK SqL SqT Dp DpAll)
/-! ### by values -/
theorem line_eq : (line : Nat) = sizeLine := by rw [sizeLine_eq]
mutual
theorem Sh.dp {K : PySem.W.Frag} {H : Hp} : ∀ {x : D} {v : V}, Sh H x v → x.plain = true → Dp K H v x.py
  | .non, _, h, _ => by cases (show _ = V.non from h); exact .non
  | .bl b, _, h, _ => by cases (show _ = V.bl b from h); exact .bl b
  | .int i, _, h, _ => by cases (show _ = V.int i from h); exact .int i
  | .str s, _, h, _ => by cases (show _ = V.str s from h); exact .str s
  | .ty n, _, _, p => by simp [D.plain] at p
  | .frz xs, _, _, p => by simp [D.plain] at p
  | .xcp _ _ _ _, _, _, p => by simp [D.plain] at p
  | .ref _, _, _, p => by simp [D.plain] at p
  | .dcK _ _, _, _, p => by simp [D.plain] at p
  | .dcT _ _, _, _, p => by simp [D.plain] at p
  | .obj _ _ _, _, _, p => by simp [D.plain] at p
  | .lst xs, _, h, p => by
    obtain ⟨a, vs, rfl, e, r⟩ := h
    exact .lst (SqL.of e) (ShA.dp r (by simpa [D.plain] using p))
  | .tup xs, _, h, p => by
    obtain ⟨a, vs, rfl, e, r⟩ := h
    exact .tup (SqT.of e) (ShA.dp r (by simpa [D.plain] using p))
theorem ShA.dp {K : PySem.W.Frag} {H : Hp} : ∀ {xs : List D} {vs : List V}, ShA H xs vs → D.plainAll xs = true → DpAll K H vs (D.pyAll xs)
  | [], _, h, _ => by cases (show _ = [] from h); exact .nil
  | x :: xs, _, h, p => by
    obtain ⟨v, r, rfl, q, t⟩ := h
    have p : (x.plain && D.plainAll xs) = true := p
    rw [Bool.and_eq_true] at p
    exact .cons (Sh.dp q p.1) (ShA.dp t p.2)
end
section
variable {X : Cx} {k : Nat}
/-- two things that are read, an operation, what it gives -/
def rBin (f : D → D → (O → Prop) → Prop) : L2.R2 := fun x y H Q => ∃ Hs dx dy, Same Hs H ∧ RV Hs H dx x ∧ RV Hs H dy y ∧ f dx dy fun z => ∀ v H' Hs', Grow Hs H Hs' H' z v → Q v H'
def rCmp (f : D → D → (Bool → Prop) → Prop) : L2.R2 := fun x y H Q => ∃ Hs dx dy, Same Hs H ∧ RV Hs H dx x ∧ RV Hs H dy y ∧ f dx dy fun z => Q (.bl z) H
theorem ShA.rep {Hs : Hp} {xs : List D} {vs : List V} (h : ShA Hs xs vs) : ∀ n : Nat, ShA Hs (List.replicate n xs).flatten (List.replicate n vs).flatten
  | 0 => rfl
  | n + 1 => by
    rw [List.replicate_succ, List.replicate_succ, List.flatten_cons, List.flatten_cons]
    exact h.app (ShA.rep h n)
theorem mulOk_of {a : Str} {n : Int} (h : 0 ≤ n ∧ n ≤ line ∧ a.length * n.toNat ≤ line) : MulOk a n := by
  have h1 : n ≤ (16777216 : Nat) := h.2.1
  have h2 : a.length * n.toNat ≤ 16777216 := h.2.2
  have h0 := h.1
  refine ⟨by simp; omega, fun p _ => ?_, fun _ _ => ?_⟩
  · obtain ⟨m, rfl⟩ := Int.eq_ofNat_of_zero_le h0
    have hm : 1 ≤ m := by omega
    have h3 : a.length * m ≤ 16777216 := h2
    have h4 : a.length ≤ a.length * m := Nat.le_mul_of_pos_right _ hm
    have h5 : (16777216 : Int) ≤ (2 ^ 63 - 1) / (m : Int) := by
      refine (Int.le_ediv_iff_mul_le (by omega)).mpr ?_
      have : (m : Int) ≤ 16777216 := by omega
      omega
    omega
  · have h3 : a.length * n.toNat ≤ sizeLine := by rw [← line_eq]; exact h2
    simpa [Builtin.Str.tooLong] using h3
theorem dec_int (i j : Int) : decide ((V.int i : V) = V.int j) = decide (i = j) := decide_eq_decide.mpr (by simp)
theorem dec_str (i j : Str) : decide ((V.str i : V) = V.str j) = decide (i = j) := decide_eq_decide.mpr (by simp)
theorem binop_R {op : Operator} : OpR X (binaryOp op) (rBin (binop op)) := by
  intro pins s σ H x y v u Q I rx ry h
  obtain ⟨Hs, dx, dy, sub, hx, hy, h⟩ := h
  unfold binop at h
  split at h
  · cases (show x = _ from hx); cases (show y = _ from hy)
    exact L2.op_add pins s σ H _ _ v u Q I rx ry ⟨_, _, rfl, rfl, h _ _ _ (.sc rfl)⟩
  · cases (show x = _ from hx); cases (show y = _ from hy)
    exact L2.op_add_str pins s σ H _ _ v u Q I rx ry ⟨_, _, rfl, rfl, by rw [← line_eq]; exact h.1, h.2 _ _ _ (.sc rfl)⟩
  · obtain ⟨a, vs, rfl, h1, h2⟩ := hx
    obtain ⟨b, ws, rfl, h3, h4⟩ := hy
    have l1 := h2.len
    have l2 := h4.len
    refine L2.op_catA pins s σ H _ _ v u Q I rx ry ⟨a, b, vs, ws, rfl, rfl, SqT.of (sub _ _ h1), SqT.of (sub _ _ h3), by rw [← line_eq, ← l1, ← l2]; exact h.1, fun e => ?_, fun n e => ?_, fun n n2 p hp => ?_⟩
    · subst e
      rename_i xs ys
      have e1 : xs = [] := List.length_eq_zero_iff.mp (by simpa using l1)
      subst e1
      exact h.2 _ _ _ (.sc ⟨b, ws, rfl, h3, h4⟩)
    · subst e
      rename_i xs ys
      have e1 : ys = [] := List.length_eq_zero_iff.mp (by simpa using l2)
      subst e1
      rw [List.append_nil] at h
      exact h.2 _ _ _ (.sc ⟨a, vs, rfl, h1, h2⟩)
    · exact h.2 _ _ _ (.tup sub hp (h2.app h4))
  · obtain ⟨a, vs, rfl, h1, h2⟩ := hx
    obtain ⟨b, ws, rfl, h3, h4⟩ := hy
    have l1 := h2.len
    have l2 := h4.len
    exact L2.op_cat pins s σ H _ _ v u Q I rx ry ⟨a, b, vs, ws, rfl, rfl, h1, h3, by rw [← line_eq, ← l1, ← l2]; exact h.1, fun p hp => h.2 _ _ _ (.lst hp (h2.app h4))⟩
  · cases (show x = _ from hx); cases (show y = _ from hy)
    exact L2.op_sub pins s σ H _ _ v u Q I rx ry ⟨_, _, rfl, rfl, h _ _ _ (.sc rfl)⟩
  · cases (show x = _ from hx); cases (show y = _ from hy)
    obtain ⟨c, h⟩ := h
    rcases c with c | c | c
    · exact L2.op_mul pins s σ H _ _ v u Q I rx ry ⟨_, _, rfl, rfl, .inl c, h _ _ _ (.sc rfl)⟩
    · exact L2.op_mul pins s σ H _ _ v u Q I rx ry ⟨_, _, rfl, rfl, .inr c, h _ _ _ (.sc rfl)⟩
    · exact L2.op_mulW pins s σ H _ _ v u Q I rx ry ⟨_, _, rfl, rfl, L2.wide_mul c.1 c.2 (by decide) (by decide) (by decide), h _ _ _ (.sc rfl)⟩
  · cases (show x = _ from hx); cases (show y = _ from hy)
    obtain ⟨c, h⟩ := h
    obtain ⟨t, rfl⟩ := rx
    obtain ⟨t', rfl⟩ := ry
    exact PySem.SB.mul (mulOk_of c) fun t' tk => ⟨.str _, H, I.tok _, ⟨_, rfl⟩, h _ _ _ (.sc rfl)⟩
  · obtain ⟨a, vs, rfl, h1, h2⟩ := hx
    cases (show y = _ from hy)
    obtain ⟨⟨c1, c2, c3⟩, h⟩ := h
    have c2 : _ ≤ ((16777216 : Nat) : Int) := c2
    exact L2.op_rep pins s σ H _ _ v u Q I rx ry ⟨a, _, vs, rfl, rfl, h1, by omega, by omega, by rw [← h2.len, ← line_eq]; exact c3, fun p hp => h _ _ _ (.lst hp (h2.rep _))⟩
  · cases (show x = _ from hx); cases (show y = _ from hy)
    obtain ⟨c, h⟩ := h
    exact L2.op_fdivW pins s σ H _ _ v u Q I rx ry ⟨_, _, rfl, rfl, L2.wide_div c.1 c.2 (by decide) (by decide), h _ _ _ (.sc rfl)⟩
  · cases (show x = _ from hx); cases (show y = _ from hy)
    exact L2.op_mod pins s σ H _ _ v u Q I rx ry ⟨_, _, rfl, rfl, h.1, h.2 _ _ _ (.sc rfl)⟩
  · cases (show x = _ from hx); cases (show y = _ from hy)
    exact L2.op_pow pins s σ H _ _ v u Q I rx ry ⟨_, _, rfl, rfl, h.1, h.2 _ _ _ (.sc rfl)⟩
  · exact h.elim
theorem iop_R {op : Operator} : OpR X (inplaceOp op) (rBin (iop op)) := by
  intro pins s σ H x y v u Q I rx ry h
  obtain ⟨Hs, dx, dy, sub, hx, hy, h⟩ := h
  unfold iop at h
  split at h
  · cases (show x = _ from hx); cases (show y = _ from hy)
    exact L2.iop_add pins s σ H _ _ v u Q I rx ry ⟨_, _, rfl, rfl, h _ _ _ (.sc rfl)⟩
  · cases (show x = _ from hx); cases (show y = _ from hy)
    exact L2.iop_add_str pins s σ H _ _ v u Q I rx ry ⟨_, _, rfl, rfl, by rw [← line_eq]; exact h.1, h.2 _ _ _ (.sc rfl)⟩
  · cases (show x = _ from hx); cases (show y = _ from hy)
    exact L2.iop_sub pins s σ H _ _ v u Q I rx ry ⟨_, _, rfl, rfl, h _ _ _ (.sc rfl)⟩
  · cases (show x = _ from hx); cases (show y = _ from hy)
    exact L2.iop_mul pins s σ H _ _ v u Q I rx ry ⟨_, _, rfl, rfl, h.1, h.2 _ _ _ (.sc rfl)⟩
  · exact h.elim
theorem room_cu {k : Nat} {A : Around} (r : Room k A) : A.units + 100 < cLine := by have := r.un; omega
theorem cmpop_R {op : CmpOp} (hr : X.A.units + 100 < cLine) : OpR X (compareOp op) (rCmp (cmpop op)) := by
  intro pins s σ H x y v u Q I rx ry h
  obtain ⟨Hs, dx, dy, sub, hx, hy, h⟩ := h
  have hu : X.A.units + 64 < cLine := by omega
  have hu2 : X.A.units + 65 < cLine := by omega
  unfold cmpop at h
  split at h
  · cases (show x = _ from hx); cases (show y = _ from hy)
    exact L2.op_eq pins s σ H _ _ v u Q I rx ry ⟨rfl, by rw [dec_int]; exact h⟩
  · cases (show x = _ from hx); cases (show y = _ from hy)
    exact L2.op_eq pins s σ H _ _ v u Q I rx ry ⟨rfl, by rw [dec_str]; exact h⟩
  · cases (show x = _ from hx); cases (show y = _ from hy)
    exact L2.op_ne pins s σ H _ _ v u Q I rx ry ⟨rfl, by rw [dec_int]; exact h⟩
  · cases (show x = _ from hx); cases (show y = _ from hy)
    exact L2.op_ne pins s σ H _ _ v u Q I rx ry ⟨rfl, by rw [dec_str]; exact h⟩
  · obtain ⟨p1, p2, h⟩ := h
    exact L2.op_eqD hu pins s σ H _ _ v u Q I rx ry ⟨_, _, (hx.sh sub).dp p1.1, (hy.sh sub).dp p2.1, p1.2, p2.2, h⟩
  · obtain ⟨p1, p2, h⟩ := h
    exact L2.op_neD hu pins s σ H _ _ v u Q I rx ry ⟨_, _, (hx.sh sub).dp p1.1, (hy.sh sub).dp p2.1, p1.2, p2.2, h⟩
  · cases (show x = _ from hx); cases (show y = _ from hy)
    exact L2.op_lt pins s σ H _ _ v u Q I rx ry ⟨_, _, rfl, rfl, h⟩
  · cases (show x = _ from hx); cases (show y = _ from hy)
    exact L2.op_le pins s σ H _ _ v u Q I rx ry ⟨_, _, rfl, rfl, h⟩
  · cases (show x = _ from hx); cases (show y = _ from hy)
    exact L2.op_gt pins s σ H _ _ v u Q I rx ry ⟨_, _, rfl, rfl, h⟩
  · cases (show x = _ from hx); cases (show y = _ from hy)
    exact L2.op_ge pins s σ H _ _ v u Q I rx ry ⟨_, _, rfl, rfl, h⟩
  · cases (show x = _ from hx); cases (show y = _ from hy)
    exact L2.op_lt_str pins s σ H _ _ v u Q I rx ry ⟨_, _, rfl, rfl, h⟩
  · cases (show x = _ from hx); cases (show y = _ from hy)
    exact L2.op_le_str pins s σ H _ _ v u Q I rx ry ⟨_, _, rfl, rfl, h⟩
  · cases (show x = _ from hx); cases (show y = _ from hy)
    exact L2.op_gt_str pins s σ H _ _ v u Q I rx ry ⟨_, _, rfl, rfl, h⟩
  · cases (show x = _ from hx); cases (show y = _ from hy)
    exact L2.op_ge_str pins s σ H _ _ v u Q I rx ry ⟨_, _, rfl, rfl, h⟩
  · cases (show y = _ from hy)
    refine L2.op_isN pins s σ H _ _ v u Q I rx ry ⟨rfl, ?_⟩
    have e : decide (x = V.non) = dx.isNon := by
      cases dx with
      | non => cases (show x = _ from hx); rfl
      | bl b => cases (show x = _ from hx); rfl
      | int b => cases (show x = _ from hx); rfl
      | str b => cases (show x = _ from hx); rfl
      | ty b => cases (show x = _ from hx); rfl
      | lst b => obtain ⟨a, vs, rfl, _⟩ := hx; rfl
      | tup b => obtain ⟨a, vs, rfl, _⟩ := hx; rfl
      | frz b => obtain ⟨a, vs, rfl, _⟩ := hx; rfl
      | xcp a b c d => obtain ⟨rfl, _⟩ := hx; rfl
      | ref a => cases (show x = _ from hx); rfl
      | dcK ks vs => obtain ⟨a, us, rfl, _⟩ := hx; rfl
      | dcT ks vs => obtain ⟨a, us, rfl, _⟩ := hx; rfl
      | obj a b c => exact hx.elim
    rw [e]; exact h
  · cases (show y = _ from hy)
    refine L2.op_notN pins s σ H _ _ v u Q I rx ry ⟨rfl, ?_⟩
    have e : (!decide (x = V.non)) = !dx.isNon := by
      cases dx with
      | non => cases (show x = _ from hx); rfl
      | bl b => cases (show x = _ from hx); rfl
      | int b => cases (show x = _ from hx); rfl
      | str b => cases (show x = _ from hx); rfl
      | ty b => cases (show x = _ from hx); rfl
      | lst b => obtain ⟨a, vs, rfl, _⟩ := hx; rfl
      | tup b => obtain ⟨a, vs, rfl, _⟩ := hx; rfl
      | frz b => obtain ⟨a, vs, rfl, _⟩ := hx; rfl
      | xcp a b c d => obtain ⟨rfl, _⟩ := hx; rfl
      | ref a => cases (show x = _ from hx); rfl
      | dcK ks vs => obtain ⟨a, us, rfl, _⟩ := hx; rfl
      | dcT ks vs => obtain ⟨a, us, rfl, _⟩ := hx; rfl
      | obj a b c => exact hx.elim
    rw [e]; exact h
  · cases (show x = _ from hx); cases (show y = _ from hy)
    exact L2.op_isBl pins s σ H _ _ v u Q I rx ry ⟨_, _, rfl, rfl, h⟩
  · cases (show x = _ from hx); cases (show y = _ from hy)
    exact L2.op_notBl pins s σ H _ _ v u Q I rx ry ⟨_, _, rfl, rfl, h⟩
  · obtain ⟨p1, p2, h⟩ := h
    have q2 : Dp X.K H y (.list _) := (hy.sh sub).dp p2.1
    exact L2.op_inD hu2 pins s σ H _ _ v u Q I rx ry ⟨_, _, (hx.sh sub).dp p1.1, q2, p1.2, p2.2, h⟩
  · obtain ⟨p1, p2, h⟩ := h
    have q2 : Dp X.K H y (.list _) := (hy.sh sub).dp p2.1
    exact L2.op_notInD hu2 pins s σ H _ _ v u Q I rx ry ⟨_, _, (hx.sh sub).dp p1.1, q2, p1.2, p2.2, h⟩
  · cases (show x = _ from hx); cases (show y = _ from hy)
    obtain ⟨c, rfl, h⟩ := h
    exact L2.op_in_sign pins s σ H _ _ v u Q I rx ry ⟨c, _, rfl, rfl, h⟩
  · cases (show x = _ from hx); cases (show y = _ from hy)
    obtain ⟨c, rfl, h⟩ := h
    exact L2.op_notIn_sign pins s σ H _ _ v u Q I rx ry ⟨c, _, rfl, rfl, h⟩
  · obtain ⟨a, o, o', rfl, g, q, g1, g2⟩ := dGet_ok sub h hy hx
    refine opD_in (by omega) pins s σ H _ _ v u Q I rx ry ⟨a, o', rfl, g, ?_⟩
    rw [some_eq g1 g2]
    exact q
  · obtain ⟨a, o, o', rfl, g, q, g1, g2⟩ := dGet_ok sub h hy hx
    refine opD_notIn (by omega) pins s σ H _ _ v u Q I rx ry ⟨a, o', rfl, g, ?_⟩
    rw [some_eq g1 g2]
    exact q
  · obtain ⟨a, o, o', rfl, g, q, g1, g2⟩ := dGet_ok sub h hy hx
    refine opD_in (by omega) pins s σ H _ _ v u Q I rx ry ⟨a, o', rfl, g, ?_⟩
    rw [some_eq g1 g2]
    exact q
  · obtain ⟨a, o, o', rfl, g, q, g1, g2⟩ := dGet_ok sub h hy hx
    refine opD_notIn (by omega) pins s σ H _ _ v u Q I rx ry ⟨a, o', rfl, g, ?_⟩
    rw [some_eq g1 g2]
    exact q
  · exact h.elim
theorem truth_R {H Hs : Hp} {x : D} {v : V} {K : PySem.W.Frag} {Q : Bool → Prop} (sub : Same Hs H) (hx : RV Hs H x v) (h : truth x Q) : ∃ k, L2.TruV K v H k ∧ Q k := by
  unfold truth at h
  split at h
  · cases (show v = _ from hx); exact ⟨_, rfl, h⟩
  · cases (show v = _ from hx); exact ⟨_, rfl, h⟩
  · cases (show v = _ from hx); exact ⟨_, rfl, h⟩
  · cases (show v = _ from hx); exact ⟨_, ⟨by rw [← line_eq]; exact h.1, rfl⟩, h.2⟩
  · rename_i xs
    obtain ⟨a, vs, rfl, h1, h2⟩ := hx
    refine ⟨_, .inl ⟨vs, SqL.of h1, rfl⟩, ?_⟩
    have e : vs.isEmpty = xs.isEmpty := by
      have := h2.len
      cases vs <;> cases xs <;> simp_all
    rw [e]; exact h
  · rename_i xs
    obtain ⟨a, vs, rfl, h1, h2⟩ := hx
    refine ⟨_, .inr (.inl ⟨vs, SqT.of (sub _ _ h1), rfl⟩), ?_⟩
    have e : vs.isEmpty = xs.isEmpty := by
      have := h2.len
      cases vs <;> cases xs <;> simp_all
    rw [e]; exact h
  · rename_i ks vs
    obtain ⟨a, us, rfl, h1, l, h2⟩ := hx
    refine ⟨_, .inr (.inr ⟨_, h1, rfl⟩), ?_⟩
    have e : (ks.zip us).isEmpty = ks.isEmpty := by
      cases us <;> cases ks <;> simp_all
    rw [e]; exact h
  · exact h.elim
theorem atI_sh {Hs : Hp} {xs : List D} {vs : List V} {i : Int} {z : D} (h : ShA Hs xs vs) (e : L2.atI xs i = some z) : ∃ w, L2.atI vs i = some w ∧ Sh Hs z w := by
  unfold L2.atI at e ⊢
  rw [← h.len]
  cases q : L2.ixN xs.length i with
  | none => rw [q] at e; cases e
  | some j =>
    rw [q] at e
    exact h.get e
def rIdx : L2.R2 := fun x y H Q => ∃ Hs dx dy, Same Hs H ∧ RV Hs H dx x ∧ RV Hs H dy y ∧ index dx dy fun z => ∀ v, Sh Hs z v → Q v H
theorem index_R (hr : X.A.units + 100 < cLine) : IxR X rIdx := by
  intro va sl pins s σ H x y v u Q I rx ry h hs
  obtain ⟨Hs, dx, dy, sub, hx, hy, h⟩ := h
  unfold index at h
  split at h
  · obtain ⟨z, e, h⟩ := h
    obtain ⟨a, vs, rfl, h1, h2⟩ := hx
    cases (show y = _ from hy)
    obtain ⟨w, e2, sh⟩ := atI_sh h2 e
    exact L2.ix_list va sl pins s σ H _ _ v u Q I rx ry ⟨a, vs, _, w, rfl, rfl, SqL.of h1, e2, h w sh⟩ hs
  · obtain ⟨z, e, h⟩ := h
    obtain ⟨a, vs, rfl, h1, h2⟩ := hx
    cases (show y = _ from hy)
    obtain ⟨w, e2, sh⟩ := atI_sh h2 e
    exact L2.ix_tup va sl pins s σ H _ _ v u Q I rx ry ⟨a, vs, _, w, rfl, rfl, SqT.of (sub _ _ h1), e2, h w sh⟩ hs
  · obtain ⟨l, c, e, h⟩ := h
    cases (show x = _ from hx); cases (show y = _ from hy)
    exact L2.ix_str va sl pins s σ H _ _ v u Q I rx ry ⟨_, _, c, rfl, rfl, by rw [← line_eq]; exact l, e, h _ rfl⟩ hs
  · obtain ⟨a, o, o', rfl, g, ⟨z, e, q⟩, g1, g2⟩ := dGet_ok sub h hx hy
    obtain ⟨w, e2, sh⟩ := g1 z e
    subst e2
    exact ix_dict (by omega) va sl pins s σ H _ _ v u Q I rx ry ⟨a, w, rfl, g, q w sh⟩ hs
  · obtain ⟨a, o, o', rfl, g, ⟨z, e, q⟩, g1, g2⟩ := dGet_ok sub h hx hy
    obtain ⟨w, e2, sh⟩ := g1 z e
    subst e2
    exact ix_dict (by omega) va sl pins s σ H _ _ v u Q I rx ry ⟨a, w, rfl, g, q w sh⟩ hs
  · exact h.elim
def rSlc : V → Option Int → Option Int → Hp → VK → Prop := fun x lo hi H Q => ∃ Hs dx, Same Hs H ∧ RV Hs H dx x ∧ slice dx lo hi fun z => ∀ v H' Hs', Grow Hs H Hs' H' z v → Q v H'
theorem slice_R (hK : X.K = KF.k) : SlR X rSlc := by
  have all : SlR X (fun x lo hi H Q => L2.rSlL X.K x lo hi H Q ∨ (L2.rSlA X.K x lo hi H Q ∨ L2.rSlS x lo hi H Q)) := L2.sl_list.or (L2.sl_tupA.or L2.sl_str)
  have imp : ∀ x lo hi H Q, rSlc x lo hi H Q → L2.rSlL X.K x lo hi H Q ∨ (L2.rSlA X.K x lo hi H Q ∨ L2.rSlS x lo hi H Q) := by
    intro x lo hi H Q h
    obtain ⟨Hs, dx, sub, hx, h⟩ := h
    unfold slice at h
    split at h
    · obtain ⟨a, vs, rfl, h1, h2⟩ := hx
      exact .inl ⟨a, vs, rfl, SqL.of h1, fun p hp => h _ _ _ (.lst hp (h2.cut lo hi))⟩
    · obtain ⟨a, vs, rfl, h1, h2⟩ := hx
      exact .inl ⟨a, vs, rfl, by rw [hK]; exact L2.Same.seq sub h1, fun p hp => h _ _ _ (.lst hp (h2.cut lo hi))⟩
    · rename_i xs
      obtain ⟨a, vs, rfl, h1, h2⟩ := hx
      refine .inr (.inl ⟨a, vs, rfl, SqT.of (sub _ _ h1), fun e => ?_, fun n p hp => h _ _ _ (.tup sub hp (h2.cut lo hi))⟩)
      have ec : cut xs lo hi = xs := by
        unfold cut
        rw [h2.len, e.1, e.2, ← h2.len]
        simp
      rw [ec] at h
      exact h _ _ _ (.sc ⟨a, vs, rfl, h1, h2⟩)
    · cases (show x = _ from hx)
      exact .inr (.inr ⟨_, rfl, by rw [← line_eq]; exact h.1, h.2 _ _ _ (.sc rfl)⟩)
    · exact h.elim
  intro pins s σ H x lo hi v vl vu
  intro sl Q I rx hx hl hu q
  first
    | exact all pins s σ H x lo hi v vl vu sl Q I rx hx hl hu (imp _ _ _ _ _ q)
    | exact all _ _ _ _ _ _ _ _ _ _ _ _ (by assumption) (by assumption) (by assumption) (by assumption) (imp _ _ _ _ _ (by assumption))
end
end Itp
namespace Itp
variable [KF]
open PySem PySem.Spec PyProof.Rows
open L2 (V Hp HO upd upd_same upd_ne ne_of ne_of_none Same Cx Inv OpR CallR MtR IxR SlR PSet TruR Room RelV EP VK SqL SqT Dp DpAll)
section
variable {X : Cx} {k : Nat}
/-- arguments read as data -/
def RVA (Hs H : Hp) : List D → List V → Prop
  | [], vs => vs = []
  | x :: xs, vs => ∃ v ws, vs = v :: ws ∧ RV Hs H x v ∧ RVA Hs H xs ws
def rBlt (b : B) : List V → Hp → VK → Prop := fun vs H Q => ∃ Hs xs, Same Hs H ∧ RVA Hs H xs vs ∧ bltin b xs fun z => ∀ v H' Hs', Grow Hs H Hs' H' z v → Q v H'
theorem RVA.one {Hs H : Hp} {x : D} {vs : List V} (h : RVA Hs H [x] vs) : ∃ v, vs = [v] ∧ RV Hs H x v := by
  obtain ⟨v, ws, rfl, a, b⟩ := h
  cases (show ws = [] from b)
  exact ⟨v, rfl, a⟩
theorem RVA.two {Hs H : Hp} {x y : D} {vs : List V} (h : RVA Hs H [x, y] vs) : ∃ v w, vs = [v, w] ∧ RV Hs H x v ∧ RV Hs H y w := by
  obtain ⟨v, ws, rfl, a, b⟩ := h
  obtain ⟨w, rfl, c⟩ := RVA.one b
  exact ⟨v, w, rfl, a, c⟩
/-- which built-in function or type it is -/
def bVal : B → Value
  | .len => .builtin "len" | .abs => .builtin "abs" | .max => .builtin "max" | .min => .builtin "min" | .sum => .builtin "sum" | .all => .builtin "all" | .any => .builtin "any"
  | .int => .type "int" | .str => .type "str" | .list => .type "list" | .tuple => .type "tuple" | .repr => .builtin "repr"
  | .lrg => .builtin "len" | .maxd => .builtin "max" | .mind => .builtin "min"
mutual
theorem py_noDict : ∀ x : D, x.py.hasDict = false
  | .non => by simp only [D.py, PyData.hasDict]
  | .bl _ => by simp only [D.py, PyData.hasDict]
  | .int _ => by simp only [D.py, PyData.hasDict]
  | .str _ => by simp only [D.py, PyData.hasDict]
  | .lst xs => by simp only [D.py, PyData.hasDict]; exact py_noDictAll xs
  | .tup xs => by simp only [D.py, PyData.hasDict]; exact py_noDictAll xs
  | .ty _ => by simp only [D.py, PyData.hasDict]
  | .frz _ => by simp only [D.py, PyData.hasDict]
  | .xcp _ _ _ _ => by simp only [D.py, PyData.hasDict]
  | .ref _ => by simp only [D.py, PyData.hasDict]
  | .dcK _ _ => by simp only [D.py, PyData.hasDict]
  | .dcT _ _ => by simp only [D.py, PyData.hasDict]
  | .obj _ _ _ => by simp only [D.py, PyData.hasDict]
theorem py_noDictAll : ∀ xs : List D, PyData.hasDictAll (D.pyAll xs) = false
  | [] => by simp only [D.pyAll, PyData.hasDictAll]
  | x :: xs => by simp only [D.pyAll, PyData.hasDictAll, py_noDict x, py_noDictAll xs, Bool.or_self]
end
theorem repr_R (hg : X.A.guards = some []) (hr : Room k X.A) {x : D} : CallR X (.builtin "repr") fun vs H Q => ∃ v, vs = [v] ∧ Dp X.K H v x.py ∧ x.py.showable = true ∧ x.py.shown.length ≤ line ∧ x.py.depth ≤ 60 ∧ Q (.str x.py.shown) H := by
  intro pins s σ H vs us Q I r h
  obtain ⟨v, rfl, dp, sh, ln, d60, q⟩ := h
  obtain ⟨u, rfl, ru⟩ : ∃ u, us = [u] ∧ RelV v u := by
    cases r with
    | cons r1 r2 => cases r2; exact ⟨_, rfl, r1⟩
  obtain ⟨as, rd⟩ := L2.Dp.reads I _ _ _ dp ru
  have nd := py_noDict x
  have hu := hr.un
  have ln : x.py.shown.length ≤ sizeLine := by rw [← line_eq]; exact ln
  clear dp ru
  generalize x.py = d at rd nd sh ln d60 q
  have viaRef : ∀ a, u = .ref a → wpAny (model X.prog X.w) X.A (PySem.call (.builtin "repr") [u]) (EP X pins σ Q) X.xe s := by
    rintro a rfl
    exact repr_of_reads' rd sh (PyData.noDict_hsm nd) hg (by omega) (fun _ _ e => e) (fun h' u tk hk => ⟨.str _, H, I.kept hk, ⟨_, rfl⟩, q⟩) ln
  cases rd with
  | none => exact PySem.P.repr_of_none ⟨.str _, H, I.tok _, ⟨_, rfl⟩, q⟩
  | bool => exact PySem.P.repr_of_bool ⟨.str _, H, I.tok _, ⟨_, rfl⟩, q⟩
  | int => exact PySem.P.repr_of_int (by simpa [PyData.showable] using sh) ⟨.str _, H, I.tok _, ⟨_, rfl⟩, q⟩
  | str => exact PySem.P.repr_of_str ⟨.str _, H, I.tok _, ⟨_, rfl⟩, q⟩ ln
  | _ => exact viaRef _ rfl
theorem bltin_R {b : B} (hb : b.own = true) (hc : X.calm = true) (hg : X.A.guards = some []) (hr : Room k X.A) : CallR X (bVal b) (rBlt b) := by
  intro pins s σ H vs us Q I r h
  obtain ⟨Hs, xs, sub, hx, h⟩ := h
  unfold bltin at h
  split at h
  · obtain ⟨v, rfl, a, ws, rfl, h1, h2⟩ := hx.one
    exact L2.call_len pins s σ H _ us Q I r ⟨_, ws.length, rfl, .inl ⟨ws, SqL.of h1, rfl⟩, by rw [← h2.len]; exact h _ _ _ (.sc rfl)⟩
  · obtain ⟨v, rfl, a, ws, rfl, h1, h2⟩ := hx.one
    exact L2.call_len pins s σ H _ us Q I r ⟨_, ws.length, rfl, .inr ⟨ws, SqT.of (sub _ _ h1), rfl⟩, by rw [← h2.len]; exact h _ _ _ (.sc rfl)⟩
  · obtain ⟨v, rfl, q⟩ := hx.one
    cases (show v = _ from q)
    exact L2.call_len pins s σ H _ us Q I r ⟨_, _, rfl, ⟨by rw [← line_eq]; exact h.1, rfl⟩, h.2 _ _ _ (.sc rfl)⟩
  · obtain ⟨v, rfl, a, ws, rfl, h1, l, h2⟩ := hx.one
    match r with
    | .cons r1 .nil =>
      cases r1
      refine L2.d_len I (.inl h1) fun t s' I' => ⟨.int _, H, I', ⟨t, rfl⟩, ?_⟩
      rw [List.length_zip, ← l, Nat.min_self]
      exact h _ _ _ (.sc rfl)
  · obtain ⟨v, rfl, q⟩ := hx.one
    cases (show v = _ from q)
    exact L2.call_abs pins s σ H _ us Q I r ⟨_, rfl, h _ _ _ (.sc rfl)⟩
  · obtain ⟨v, w, rfl, q, q2⟩ := hx.two
    cases (show v = _ from q); cases (show w = _ from q2)
    exact L2.call_max2 hc pins s σ H _ us Q I r ⟨_, _, rfl, h _ _ _ (.sc rfl)⟩
  · obtain ⟨v, w, rfl, q, q2⟩ := hx.two
    cases (show v = _ from q); cases (show w = _ from q2)
    exact L2.call_min2 hc pins s σ H _ us Q I r ⟨_, _, rfl, h _ _ _ (.sc rfl)⟩
  · obtain ⟨v, rfl, a, ws, rfl, h1, h2⟩ := hx.one
    obtain ⟨ns, e, l, h⟩ := h
    have e2 := h2.ints _ _ _ e
    subst e2
    exact L2.cr_max hc pins s σ H _ us Q I r ⟨a, ns, rfl, SqL.of h1, l, fun m m1 m2 => h m m1 m2 _ _ _ (.sc rfl)⟩
  · obtain ⟨v, rfl, a, ws, rfl, h1, h2⟩ := hx.one
    obtain ⟨ns, e, l, h⟩ := h
    have e2 := h2.ints _ _ _ e
    subst e2
    exact L2.cr_min hc pins s σ H _ us Q I r ⟨a, ns, rfl, SqL.of h1, l, fun m m1 m2 => h m m1 m2 _ _ _ (.sc rfl)⟩
  · obtain ⟨v, rfl, a, ws, rfl, h1, h2⟩ := hx.one
    obtain ⟨ns, e, h⟩ := h
    have e2 := h2.ints _ _ _ e
    subst e2
    exact L2.cr_sum hc pins s σ H _ us Q I r ⟨a, ns, rfl, SqL.of h1, h _ _ _ (.sc rfl)⟩
  · obtain ⟨v, rfl, a, ws, rfl, h1, h2⟩ := hx.one
    obtain ⟨ns, e, h⟩ := h
    have e2 := h2.bools _ _ _ e
    subst e2
    exact L2.cr_all hc pins s σ H _ us Q I r ⟨a, ns, rfl, SqL.of h1, h _ _ _ (.sc rfl)⟩
  · obtain ⟨v, rfl, a, ws, rfl, h1, h2⟩ := hx.one
    obtain ⟨ns, e, h⟩ := h
    have e2 := h2.bools _ _ _ e
    subst e2
    exact L2.cr_any hc pins s σ H _ us Q I r ⟨a, ns, rfl, SqL.of h1, h _ _ _ (.sc rfl)⟩
  · obtain ⟨v, rfl, q⟩ := hx.one
    cases (show v = _ from q)
    exact L2.call_int1 pins s σ H _ us Q I r (.inl ⟨_, rfl, h _ _ _ (.sc rfl)⟩)
  · obtain ⟨v, rfl, q⟩ := hx.one
    cases (show v = _ from q)
    exact L2.call_int1 pins s σ H _ us Q I r (.inr ⟨_, rfl, h _ _ _ (.sc rfl)⟩)
  · obtain ⟨v, rfl, q⟩ := hx.one
    cases (show v = _ from q)
    exact L2.call_str_int pins s σ H _ us Q I r ⟨_, rfl, h.1, h.2 _ _ _ (.sc rfl)⟩
  · obtain ⟨v, rfl, a, ws, rfl, h1, h2⟩ := hx.one
    exact L2.call_list_of pins s σ H _ us Q I r ⟨a, ws, rfl, .inl (SqL.of h1), fun l hl => h _ _ _ (.lst hl h2)⟩
  · obtain ⟨v, rfl, a, ws, rfl, h1, h2⟩ := hx.one
    exact L2.call_list_of pins s σ H _ us Q I r ⟨a, ws, rfl, .inr (SqT.of (sub _ _ h1)), fun l hl => h _ _ _ (.lst hl h2)⟩
  · obtain ⟨v, rfl, a, ws, rfl, h1, h2⟩ := hx.one
    exact L2.call_tuple_of pins s σ H _ us Q I r ⟨a, ws, rfl, .inl ⟨SqL.of h1, fun l hl => h _ _ _ (.tup sub hl h2)⟩⟩
  · obtain ⟨v, rfl, a, ws, rfl, h1, h2⟩ := hx.one
    exact L2.call_tuple_of pins s σ H _ us Q I r ⟨a, ws, rfl, .inr ⟨SqT.of (sub _ _ h1), h _ _ _ (.sc ⟨a, ws, rfl, h1, h2⟩)⟩⟩
  · obtain ⟨v, rfl, q⟩ := hx.one
    obtain ⟨p1, p2, p3, p4, h⟩ := h
    exact repr_R hg hr pins s σ H _ us Q I r ⟨v, rfl, (q.sh sub).dp p1, p2, p3, p4, h _ _ _ (.sc rfl)⟩
  · cases hb
  · cases hb
  · cases hb
  · cases hb
  · exact h.elim
def rSrt : List V → Hp → VK → Prop := fun vs H Q => ∃ Hs a us xs, vs = [.ref a] ∧ Same Hs H ∧ H a = some (.lst us) ∧ ShA Hs xs us ∧ SrtOk xs ∧ ∀ ws p, ShA Hs (srtD xs) ws → H p = none → Q (.ref p) (upd H p (.lst ws))
theorem each_vals {Hs : Hp} : ∀ {xs : List D} {us : List V} {its : List Value}, ShA Hs xs us → L2.Vals us its → PySem.W.EachIs (fun v b => ∃ x, RelV x v ∧ Sh Hs b x) its xs
  | [], _, _, h, r => by
    cases (show _ = [] from h)
    cases r
    exact .nil
  | x :: xs, _, _, h, r => by
    obtain ⟨v, ws, rfl, a, b⟩ := h
    cases r with
    | cons r1 r2 => exact .cons ⟨v, r1, a⟩ (each_vals b r2)
theorem vals_each {Hs : Hp} : ∀ {xs : List D} {its : List Value}, PySem.W.EachIs (fun v b => ∃ x, RelV x v ∧ Sh Hs b x) its xs → ∃ us, ShA Hs xs us ∧ L2.Vals us its
  | _, _, .nil => ⟨[], rfl, .nil⟩
  | _, _, .cons ⟨x, r, sh⟩ t => by
    obtain ⟨us, a, b⟩ := vals_each t
    exact ⟨x :: us, ⟨x, us, rfl, sh, a⟩, .cons r b⟩
theorem each_reads {X : Cx} {pins : List (Addr × Obj)} {σ : L2.St} {H Hs : Hp} {s : Shared} (I : Inv X pins σ H s) (sub : Same Hs H) : ∀ {xs : List D} {us : List V} {its : List Value}, ShA Hs xs us → L2.Vals us its → (∀ x ∈ xs, x.plain = true) → PySem.W.EachIs (fun v (b : D) => ∃ as, Reads s.heap v b.py as) its xs
  | [], _, _, h, r, _ => by
    cases (show _ = [] from h)
    cases r
    exact .nil
  | x :: xs, _, _, h, r, p => by
    obtain ⟨v, ws, rfl, a, b⟩ := h
    cases r with
    | cons r1 r2 => exact .cons (L2.Dp.reads I _ _ _ (Sh.dp (Sh.mono sub a) (p x List.mem_cons_self)) r1) (each_reads I sub b r2 fun y hy => p y (List.mem_cons_of_mem _ hy))
theorem srt_R (hr : Room k X.A) : CallR X (.builtin "sorted") rSrt := by
  intro pins s σ H vs us Q I r h
  obtain ⟨Hs, a, zs, xs, rfl, sub, e, sh, ⟨ok1, ok2, ok3, ok4⟩, q⟩ := h
  obtain ⟨its, rv, lp, hz⟩ := I.list (SqL.of e)
  obtain ⟨y, rfl, ry⟩ : ∃ y, us = [y] ∧ RelV (.ref a) y := by
    cases r with
    | cons r1 r2 => cases r2; exact ⟨_, rfl, r1⟩
  cases ry
  refine PySem.W.sorted_data lp.isList (each_vals sh rv) (each_reads I sub sh rv fun x hx => (ok1 x hx).1) ok2 ok3 (by rw [← line_eq]; exact ok4) (fun b hb => ?_) fun out lo eo => ?_
  · have h1 := (ok1 b hb).2
    have h2 := hr.un
    omega
  · obtain ⟨ws, sw, rw_⟩ := vals_each eo
    obtain ⟨ep, at_⟩ := PyProof.Rows.sortedAll_at s.heap its (List.toArray out)
    have lw : ws.length ≤ sizeLine := by
      rw [← line_eq, rw_.length, lo]; exact ok4
    exact ⟨.ref _, upd H (s.heap.objs.size + 1) (.lst ws), I.laid (t' := s.toks) (fun _ _ => PyProof.Rows.sortedAll_old) (Nat.le_succ _) ⟨lw, out, ep, rw_, at_⟩, rfl, q ws _ sw (I.hok.fresh (Nat.le_succ _))⟩
def rSrr : List V → List V → Hp → VK → Prop := fun vs zs H Q => ∃ Hs a us xs, vs = [.ref a] ∧ zs = [.bl true] ∧ Same Hs H ∧ H a = some (.lst us) ∧ ShA Hs xs us ∧ SrtOk xs ∧ ∀ ws p, ShA Hs (srtR xs) ws → H p = none → Q (.ref p) (upd H p (.lst ws))
theorem srr_R (hr : Room k X.A) : L2.CallRK X (.builtin "sorted") [Str.ofString "reverse"] rSrr := by
  intro pins s σ H vs zz us ww Q I r rz h
  obtain ⟨Hs, a, zs, xs, rfl, rfl, sub, e, sh, ⟨ok1, ok2, ok3, ok4⟩, q⟩ := h
  obtain ⟨its, rv, lp, hz⟩ := I.list (SqL.of e)
  obtain ⟨y, rfl, ry⟩ : ∃ y, us = [y] ∧ RelV (.ref a) y := by
    cases r with
    | cons r1 r2 => cases r2; exact ⟨_, rfl, r1⟩
  obtain ⟨b, rfl, rb⟩ : ∃ b, ww = [b] ∧ RelV (.bl true) b := by
    cases rz with
    | cons r1 r2 => cases r2; exact ⟨_, rfl, r1⟩
  cases ry
  cases rb
  refine PySem.W.sorted_rev_data lp.isList (each_vals sh rv) (each_reads I sub sh rv fun x hx => (ok1 x hx).1) ok2 ok3 (by rw [← line_eq]; exact ok4) (fun b hb => ?_) fun out lo eo => ?_
  · have h1 := (ok1 b hb).2
    have h2 := hr.un
    omega
  · obtain ⟨ws, sw, rw_⟩ := vals_each eo
    obtain ⟨ep, at_⟩ := PyProof.Rows.sortedAll_at s.heap its (List.toArray out)
    have lw : ws.length ≤ sizeLine := by
      rw [← line_eq, rw_.length, lo]; exact ok4
    exact ⟨.ref _, upd H (s.heap.objs.size + 1) (.lst ws), I.laid (t' := s.toks) (fun _ _ => PyProof.Rows.sortedAll_old) (Nat.le_succ _) ⟨lw, out, ep, rw_, at_⟩, rfl, q ws _ sw (I.hok.fresh (Nat.le_succ _))⟩
theorem reads_of_ints {h : Heap} : ∀ {vs : List Value} {ns : List Int}, IntsAre vs ns → ReadsAll h vs (ns.map .int) []
  | _, [], .nil => .nil
  | _, _ :: _, .cons _ _ r => .cons (.int _ _) (reads_of_ints r)
theorem alikeAll_i (ns : List Int) : PySem.W.AlikeAll (ns.map .int) := by
  refine ⟨fun x hx y hy => ?_, fun x hx => ?_⟩
  · obtain ⟨a, _, rfl⟩ := List.mem_map.mp hx
    obtain ⟨b, _, rfl⟩ := List.mem_map.mp hy
    simp [PySem.W.alike]
  · obtain ⟨a, _, rfl⟩ := List.mem_map.mp hx
    exact fun z => by cases z
theorem depth_i : ∀ ns : List Int, PyData.depthAll (ns.map .int) = 0
  | [] => rfl
  | n :: ns => by rw [List.map_cons, PyData.depthAll, depth_i ns]; rfl
def rMxd : List V → List V → Hp → VK → Prop := fun vs zs H Q => ∃ a ns, vs = [.ref a] ∧ zs = [.non] ∧ H a = some (.lst (ns.map V.int)) ∧ ∀ v, (∀ Hs, Sh Hs (mxI ns) v) → Q v H
theorem Mxd_R (hc : X.calm = true) (hr : Room k X.A) : L2.CallRK X (.builtin "max") [Str.ofString "default"] rMxd := by
  intro pins s σ H vs zz us ww Q I r rz h
  obtain ⟨a, ns, rfl, rfl, e, q⟩ := h
  obtain ⟨its, rv, lp, hz⟩ := I.list (SqL.of e)
  obtain ⟨y, rfl, ry⟩ : ∃ y, us = [y] ∧ RelV (.ref a) y := by
    cases r with
    | cons r1 r2 => cases r2; exact ⟨_, rfl, r1⟩
  obtain ⟨b, rfl, rb⟩ : ∃ b, ww = [b] ∧ RelV V.non b := by
    cases rz with
    | cons r1 r2 => cases r2; exact ⟨_, rfl, r1⟩
  cases ry
  cases rb
  refine PySem.W.max_list_default (xs := ns.map .int) (as := []) (I.ok.hd hc) lp.isList (reads_of_ints rv.ints) (alikeAll_i ns) ?_ (fun z h' tk hk => ?_) fun d ds i v h' tk bs ed ev rd hk => ?_
  · have : PyData.depthAll (ns.map .int) = 0 := depth_i ns
    have h2 := hr.un
    omega
  · have : ns = [] := List.map_eq_nil_iff.mp z
    subst this
    exact ⟨.non, H, I.kept hk, rfl, q .non fun Hs => rfl⟩
  · cases ns with
    | nil => cases ed
    | cons n ns =>
      rw [List.map_cons] at ed
      injection ed with ed1 ed2
      subst ed1 ed2
      rw [PySem.W.maxD_ints] at rd
      obtain ⟨t, rfl, _⟩ := PyProof.Rows.reads_int_inv rd
      exact ⟨.int _, H, I.kept hk, ⟨_, rfl⟩, q (.int _) fun Hs => rfl⟩
def rMnd : List V → List V → Hp → VK → Prop := fun vs zs H Q => ∃ a ns, vs = [.ref a] ∧ zs = [.non] ∧ H a = some (.lst (ns.map V.int)) ∧ ∀ v, (∀ Hs, Sh Hs (mnI ns) v) → Q v H
theorem Mnd_R (hc : X.calm = true) (hr : Room k X.A) : L2.CallRK X (.builtin "min") [Str.ofString "default"] rMnd := by
  intro pins s σ H vs zz us ww Q I r rz h
  obtain ⟨a, ns, rfl, rfl, e, q⟩ := h
  obtain ⟨its, rv, lp, hz⟩ := I.list (SqL.of e)
  obtain ⟨y, rfl, ry⟩ : ∃ y, us = [y] ∧ RelV (.ref a) y := by
    cases r with
    | cons r1 r2 => cases r2; exact ⟨_, rfl, r1⟩
  obtain ⟨b, rfl, rb⟩ : ∃ b, ww = [b] ∧ RelV V.non b := by
    cases rz with
    | cons r1 r2 => cases r2; exact ⟨_, rfl, r1⟩
  cases ry
  cases rb
  refine PySem.W.min_list_default (xs := ns.map .int) (as := []) (I.ok.hd hc) lp.isList (reads_of_ints rv.ints) (alikeAll_i ns) ?_ (fun z h' tk hk => ?_) fun d ds i v h' tk bs ed ev rd hk => ?_
  · have : PyData.depthAll (ns.map .int) = 0 := depth_i ns
    have h2 := hr.un
    omega
  · have : ns = [] := List.map_eq_nil_iff.mp z
    subst this
    exact ⟨.non, H, I.kept hk, rfl, q .non fun Hs => rfl⟩
  · cases ns with
    | nil => cases ed
    | cons n ns =>
      rw [List.map_cons] at ed
      injection ed with ed1 ed2
      subst ed1 ed2
      rw [PySem.W.minD_ints] at rd
      obtain ⟨t, rfl, _⟩ := PyProof.Rows.reads_int_inv rd
      exact ⟨.int _, H, I.kept hk, ⟨_, rfl⟩, q (.int _) fun Hs => rfl⟩
def rIsT (t : String) : List V → Hp → VK → Prop := fun vs H Q => ∃ Hs x v, vs = [v, .ty t] ∧ Same Hs H ∧ RV Hs H x v ∧ isTy x t fun z => Q (.bl z) H
def tyNames : List String := ["int", "bool", "str", "list", "tuple", "dict"]
theorem isTy_R {t : String} (ht : t ∈ tyNames) : CallR X (.builtin "isinstance") (rIsT t) := by
  intro pins s σ H vs us Q I r h
  obtain ⟨Hs, x, v, rfl, sub, hx, h⟩ := h
  have kt : ∀ (n : String) (b : Bool), L2.kitB n t = some b → PySem.W.kitOne X.K (.type n) (.type t) = some b := fun n b e => L2.kit_ty e
  have fin : ∀ (n : String) (b : Bool), L2.TyX X.K H v (.type n) → L2.kitB n t = some b → Q (.bl b) H → wpAny (model X.prog X.w) X.A (PySem.call (.builtin "isinstance") us) (EP X pins σ Q) X.xe s := fun n b ty e q =>
    L2.call_isi pins s σ H _ us Q I r ⟨v, .ty t, .type n, .type t, b, rfl, .ty t, ty, kt n b e, q⟩
  have tab : ∀ n ∈ ["NoneType", "bool", "int", "str", "list", "tuple", "dict"], L2.kitB n t = some (if n = "bool" then (t == "bool" || t == "int") else t == n) := by
    unfold tyNames at ht
    intro n hn
    revert n
    have hd : ∀ t ∈ ["int", "bool", "str", "list", "tuple", "dict"], ∀ n ∈ ["NoneType", "bool", "int", "str", "list", "tuple", "dict"], L2.kitB n t = some (if n = "bool" then (t == "bool" || t == "int") else t == n) := by decide +kernel
    exact hd t ht
  unfold isTy at h
  split at h
  · cases (show v = _ from hx); exact fin "NoneType" _ (.base .non) (by rw [tab "NoneType" (by decide)]; rw [if_neg (by decide)]) h
  · cases (show v = _ from hx); exact fin "bool" _ (.base (.bl _)) (by rw [tab "bool" (by decide)]; rw [if_pos rfl]) h
  · cases (show v = _ from hx); exact fin "int" _ (.base (.int _)) (by rw [tab "int" (by decide)]; rw [if_neg (by decide)]) h
  · cases (show v = _ from hx); exact fin "str" _ (.base (.str _)) (by rw [tab "str" (by decide)]; rw [if_neg (by decide)]) h
  · obtain ⟨a, ws, rfl, h1, h2⟩ := hx
    exact fin "list" _ (.base (.lst h1)) (by rw [tab "list" (by decide)]; rw [if_neg (by decide)]) h
  · obtain ⟨a, ws, rfl, h1, h2⟩ := hx
    exact fin "tuple" _ (.base (.tup (sub _ _ h1))) (by rw [tab "tuple" (by decide)]; rw [if_neg (by decide)]) h
  · obtain ⟨a, ws, rfl, h1, l, h2⟩ := hx
    exact fin "dict" _ (.base (.dK h1)) (by rw [tab "dict" (by decide)]; rw [if_neg (by decide)]) h
  · obtain ⟨a, ws, rfl, h1, l, h2⟩ := hx
    exact fin "dict" _ (.base (.dT h1)) (by rw [tab "dict" (by decide)]; rw [if_neg (by decide)]) h
  · exact h.elim
/-- methods that change nothing -/
def rMeth (m : MP) : V → List V → Hp → VK → Prop := fun x vs H Q => ∃ Hs dx xs, Same Hs H ∧ RV Hs H dx x ∧ RVA Hs H xs vs ∧ meth m dx xs fun z => ∀ v H' Hs', Grow Hs H Hs' H' z v → Q v H'
theorem join_R : MtR X "str.join" (rMeth .join) := by
  intro pins s σ H x vs v us Q I rx r h
  obtain ⟨Hs, dx, xs, sub, hx, ha, h⟩ := h
  simp only [meth] at h
  unfold methJ at h
  split at h
  · obtain ⟨w, rfl, a, ws, rfl, h1, h2⟩ := ha.one
    cases (show x = _ from hx)
    obtain ⟨ys, e, l, h⟩ := h
    have e2 := h2.strs _ _ _ e
    subst e2
    exact L2.mt_join pins s σ H _ _ v us Q I rx r ⟨_, a, ys, rfl, rfl, .inl (SqL.of h1), l, h _ _ _ (.sc rfl)⟩
  · obtain ⟨w, rfl, a, ws, rfl, h1, h2⟩ := ha.one
    cases (show x = _ from hx)
    obtain ⟨ys, e, l, h⟩ := h
    have e2 := h2.strs _ _ _ e
    subst e2
    exact L2.mt_join pins s σ H _ _ v us Q I rx r ⟨_, a, ys, rfl, rfl, .inr (SqT.of (sub _ _ h1)), l, h _ _ _ (.sc rfl)⟩
  · exact h.elim
theorem index_RS : MtR X "str.index" (fun x vs H Q => (∃ z, x = .str z) ∧ rMeth .index x vs H Q) := by
  intro pins s σ H x vs v us Q I rx r h
  obtain ⟨⟨z, rfl⟩, Hs, dx, xs, sub, hx, ha, h⟩ := h
  simp only [meth] at h
  unfold methI at h
  split at h
  · cases (show V.str z = _ from hx)
    obtain ⟨w, rfl, q⟩ := ha.one
    cases (show w = _ from q)
    obtain ⟨i, rest, e, h⟩ := h
    exact L2.mt_sindex pins s σ H _ _ v us Q I rx r ⟨_, _, i, rest, rfl, rfl, e, h _ _ _ (.sc rfl)⟩
  · obtain ⟨a, vs', e, _⟩ := hx
    cases e
  · exact h.elim
theorem pyAll_get : ∀ {xs : List D} {j : Nat} {z : D}, xs[j]? = some z → (D.pyAll xs)[j]? = some z.py
  | x :: xs, 0, z, h => by simp at h; subst h; rfl
  | x :: xs, j + 1, z, h => by simp at h; simpa [D.pyAll] using pyAll_get h
theorem pyAll_of : ∀ {xs : List D} {j : Nat} {z : PyData}, (D.pyAll xs)[j]? = some z → ∃ y, xs[j]? = some y ∧ z = y.py
  | [], j, z, h => by simp [D.pyAll] at h
  | x :: xs, 0, z, h => by simp [D.pyAll] at h; exact ⟨x, rfl, h.symm⟩
  | x :: xs, j + 1, z, h => by
    obtain ⟨y, a, b⟩ := pyAll_of (xs := xs) (j := j) (z := z) (by simpa [D.pyAll] using h)
    exact ⟨y, by simpa using a, b⟩
theorem index_RL (hr : Room k X.A) : MtR X "list.index" (fun x vs H Q => (∃ a, x = .ref a) ∧ rMeth .index x vs H Q) := by
  intro pins s σ H x vs v us Q I rx r h
  obtain ⟨⟨a0, rfl⟩, Hs, dx, xs, sub, hx, ha, h⟩ := h
  have hu2 : X.A.units + 65 < cLine := by have := hr.un; omega
  simp only [meth] at h
  unfold methI at h
  split at h
  · cases (show V.ref a0 = _ from hx)
  · rename_i ds y
    obtain ⟨w, rfl, q⟩ := ha.one
    obtain ⟨o1, o2, j, z, e1, e2, e3, h⟩ := h
    have q2 : Dp X.K H (.ref a0) (.list (D.pyAll ds)) := (hx.sh sub).dp o1.1
    exact L2.mt_indexD hu2 pins s σ H _ _ v us Q I rx r ⟨a0, w, y.py, D.pyAll ds, j, z.py, rfl, rfl, q2, (q.sh sub).dp o2.1, o1.2, o2.2, pyAll_get e1, e2, fun m z' hm hz => by
      obtain ⟨y', a, rfl⟩ := pyAll_of hz
      exact e3 m y' hm a, h _ _ _ (.sc rfl)⟩
  · exact h.elim
theorem count_RS : MtR X "str.count" (fun x vs H Q => (∃ z, x = .str z) ∧ rMeth .count x vs H Q) := by
  intro pins s σ H x vs v us Q I rx r h
  obtain ⟨⟨z, rfl⟩, Hs, dx, xs, sub, hx, ha, h⟩ := h
  simp only [meth] at h
  unfold methC at h
  split at h
  · cases (show V.str z = _ from hx)
    obtain ⟨w, rfl, q⟩ := ha.one
    cases (show w = _ from q)
    exact L2.mt_count pins s σ H _ _ v us Q I rx r ⟨_, _, rfl, rfl, h _ _ _ (.sc rfl)⟩
  · exact h.elim
/-- methods that change a list -/
def rMut (m : MU) : V → List V → Hp → VK → Prop := fun x vs H Q => ∃ Hs a us xs ds, x = .ref a ∧ Same Hs H ∧ H a = some (.lst us) ∧ ShA Hs xs us ∧ ShA Hs ds vs ∧ muta m xs ds fun z ys => ∀ v ws, Sh Hs z v → ShA Hs ys ws → Q v (upd H a (.lst ws))
def mId : MU → String
  | .append => "list.append" | .pop => "list.pop" | .reverse => "list.reverse" | .clear => "list.clear" | .extend => "list.extend" | .insert => "list.insert"
theorem ShA.one {Hs : Hp} {x : D} {vs : List V} (h : ShA Hs [x] vs) : ∃ v, vs = [v] ∧ Sh Hs x v := by
  obtain ⟨v, ws, rfl, a, b⟩ := h
  cases (show ws = [] from b)
  exact ⟨v, rfl, a⟩
theorem muta_R {m : MU} : MtR X (mId m) (rMut m) := by
  intro pins s σ H x vs v us Q I rx r h
  obtain ⟨Hs, a, zs, xs, ds, rfl, sub, h1, h2, h3, h⟩ := h
  have l2 := h2.len
  unfold muta at h
  split at h
  · obtain ⟨w, rfl, q⟩ := h3.one
    exact L2.mt_append pins s σ H _ _ v us Q I rx r ⟨a, zs, w, rfl, rfl, h1, by rw [← line_eq, ← l2]; exact h.1, h.2 _ _ rfl (h2.app ⟨w, [], rfl, q, rfl⟩)⟩
  · cases (show vs = [] from h3)
    obtain ⟨y, e, h⟩ := h
    obtain ⟨w, e2, sh⟩ := h2.get e
    exact L2.mt_pop pins s σ H _ _ v us Q I rx r ⟨a, zs, w, rfl, rfl, h1, by rw [← l2]; exact e2, h _ _ sh h2.dropLast⟩
  · obtain ⟨w, rfl, q⟩ := h3.one
    cases (show w = _ from q)
    obtain ⟨⟨b1, b2⟩, j, y, e, e2, h⟩ := h
    obtain ⟨w, e3, sh⟩ := h2.get e2
    exact L2.mt_popAt pins s σ H _ _ v us Q I rx r ⟨a, zs, _, j, w, rfl, rfl, h1, b1, b2, by rw [← l2]; exact e, e3, h _ _ sh (h2.erase j)⟩
  · cases (show vs = [] from h3)
    exact L2.mt_reverse pins s σ H _ _ v us Q I rx r ⟨a, zs, rfl, rfl, h1, h _ _ rfl h2.rev⟩
  · cases (show vs = [] from h3)
    exact L2.mt_clear pins s σ H _ _ v us Q I rx r ⟨a, zs, rfl, rfl, h1, h _ _ rfl rfl⟩
  · obtain ⟨w, rfl, b, ws, rfl, q1, q2⟩ := h3.one
    exact L2.mt_extend pins s σ H _ _ v us Q I rx r ⟨a, b, zs, ws, rfl, rfl, h1, sub _ _ q1, by rw [← line_eq, ← l2, ← q2.len]; exact h.1, h.2 _ _ rfl (h2.app q2)⟩
  · obtain ⟨w, ws, rfl, q, t⟩ := h3
    obtain ⟨w2, rfl, q2⟩ := ShA.one t
    cases (show w = _ from q)
    exact L2.mt_insert pins s σ H _ _ v us Q I rx r ⟨a, zs, _, w2, rfl, rfl, h1, by rw [← line_eq, ← l2]; exact h.1, h.2.1.1, h.2.1.2, h.2.2 _ _ rfl (((h2.take _).app (ShA.cons q2 ShA.nil)).app (h2.drop _))⟩
  · exact h.elim
/-- o[i] of a list, for o[i] op= e -/
theorem get_list : L2.PGet X (L2.rIxL X.K) := by
  intro pins s σ H o i ov iv Q I ro ri h
  obtain ⟨p, xs, n, w, rfl, rfl, hl, e, q⟩ := h
  obtain ⟨its, rv, pl, hz⟩ := I.list hl
  obtain ⟨t, rfl⟩ := ri
  cases ro
  obtain ⟨j, e1, e2, h3, h4, h5⟩ := L2.atI_get e
  obtain ⟨u, hu, ru⟩ := rv.get e2
  have hl2 := rv.length
  have hn := L2.line63
  have fin : EP X pins σ Q u s := ⟨w, H, I, ru, q⟩
  by_cases h0 : 0 ≤ n
  · have hj : n.toNat = j := by
      rw [seqIndex_of h0 h5] at e1
      exact Option.some.inj e1
    exact wpAny_getItem_list pl.isList h0 (by omega) (by rw [hj]; simpa using hu) fin
  · have hj : (n + (its.toArray.size : Int)).toNat = j := by
      rw [seqIndex_neg (by omega) (by omega)] at e1
      rw [List.size_toArray, ← hl2]
      exact Option.some.inj e1
    exact wpAny_mono (wpAny_getItem_list_neg (x := u) (Q := fun r s' => r = u ∧ EP X pins σ Q r s') pl.isList (by omega) (by rw [List.size_toArray] <;> omega) (by omega) (by rw [hj]; simpa using hu) ⟨rfl, fin⟩) (fun _ _ h => h.2) fun _ _ h => h
end
end Itp

namespace Itp
variable [KF]
open PySem PySem.Spec PyProof.Rows
open L2 (V Hp HO upd upd_same upd_ne ne_of ne_of_none Same Cx Inv OpR CallR MtR IxR SlR PSet TruR Room RelV EP VK SqL SqT Dp DpAll It TI TE TA PI PE PA PIE thn Turn FpOk Itl Itt Its Itr Itc Itv Ite Itz Gl)
/-! ### what a for walks -/
/-- J goes through xs, in heaps that hold what H1 holds at the sources -/
structure Wlk (Hb : Hp) (J : It) (xs : List D) (G : Hp → Prop) : Prop where
  goes : ∀ i H, i < xs.length → G H → J.go i H
  stops : ∀ H, G H → J.stop xs.length H
  yields : ∀ i H v H' Hs x, xs[i]? = some x → G H → Same Hb Hs → Same Hs H → J.yld i H v H' → ∃ Hs', Sh Hs' x v ∧ ((H' = H ∧ Hs' = Hs) ∨ ∃ T o, H T = none ∧ H' = upd H T o ∧ Hs' = upd Hs T o)
/-- the sources as they stood -/
def Held (vs : List V) (H1 H : Hp) : Prop := ∀ a o, V.ref a ∈ vs → H1 a = some o → H a = some o
section
variable {Hs H : Hp} {K : PySem.W.Frag}
theorem wlk_list {a : Addr} {us : List V} {xs : List D} {vs : List V} (h : ShA Hs xs us) (ha : H a = some (.lst us)) (hv : V.ref a ∈ vs) : Wlk Hs (Itl K a) xs (Held vs H) := by
  refine ⟨fun i H' hi g => ?_, fun H' g => ?_, fun i H' v H2 Hs' x e g sb sub y => ?_⟩
  · obtain ⟨w, e, _⟩ := h.get (List.getElem?_eq_getElem hi)
    exact ⟨us, w, SqL.of (g a _ hv ha), e⟩
  · exact ⟨us, SqL.of (g a _ hv ha), by rw [h.len]; exact Nat.le_refl _⟩
  · obtain ⟨e2, y⟩ := y
    have := y us (SqL.of (g a _ hv ha))
    exact ⟨Hs', Sh.mono sb (h.at e this), .inl ⟨e2, rfl⟩⟩
theorem wlk_tup {a : Addr} {us : List V} {xs : List D} {vs : List V} (h : ShA Hs xs us) (ha : H a = some (.tup us)) (hv : V.ref a ∈ vs) : Wlk Hs (Itt K a) xs (Held vs H) := by
  refine ⟨fun i H' hi g => ?_, fun H' g => ?_, fun i H' v H2 Hs' x e g sb sub y => ?_⟩
  · obtain ⟨w, e, _⟩ := h.get (List.getElem?_eq_getElem hi)
    exact ⟨us, w, SqT.of (g a _ hv ha), e⟩
  · exact ⟨us, SqT.of (g a _ hv ha), by rw [h.len]; exact Nat.le_refl _⟩
  · obtain ⟨e2, y⟩ := y
    have := y us (SqT.of (g a _ hv ha))
    exact ⟨Hs', Sh.mono sb (h.at e this), .inl ⟨e2, rfl⟩⟩
theorem wlk_str {z : Str} {vs : List V} : Wlk Hs (Its z) (z.cps.toList.map fun c => .str ⟨#[c]⟩) (Held vs H) := by
  refine ⟨fun i H' hi g => ?_, fun H' g => ?_, fun i H' v H2 Hs' x e g sb sub y => ?_⟩
  · show i < z.cps.size
    simpa using hi
  · show z.cps.size ≤ _
    simp
  · obtain ⟨e2, c, y, rfl⟩ := y
    refine ⟨Hs', ?_, .inl ⟨e2, rfl⟩⟩
    rw [List.getElem?_map, Array.getElem?_toList, y] at e
    cases e
    rfl
theorem wlk_range {lo : Int} {n : Nat} {vs : List V} : Wlk Hs (Itr lo n) (rangeD lo n) (Held vs H) := by
  refine ⟨fun i H' hi g => ?_, fun H' g => ?_, fun i H' v H2 Hs' x e g sb sub y => ?_⟩
  · show i < n
    simpa [rangeD] using hi
  · show n ≤ _
    simp [rangeD]
  · obtain ⟨e2, rfl⟩ := y
    refine ⟨Hs', ?_, .inl ⟨e2, rfl⟩⟩
    unfold rangeD at e
    rw [List.getElem?_map] at e
    cases q : (List.range n)[i]? with
    | none => rw [q] at e; cases e
    | some j =>
      rw [q] at e
      have : j = i := by
        obtain ⟨h1, h2⟩ := List.getElem?_eq_some_iff.mp q
        simpa using h2.symm
      subst this
      cases e
      rfl
theorem wlk_down {lo : Int} {n : Nat} {vs : List V} : Wlk Hs (Itc lo (-1) n) (downD lo n) (Held vs H) := by
  refine ⟨fun i H' hi g => ?_, fun H' g => ?_, fun i H' v H2 Hs' x e g sb sub y => ?_⟩
  · show i < n
    simpa [downD] using hi
  · show n ≤ _
    simp [downD]
  · obtain ⟨e2, rfl⟩ := y
    refine ⟨Hs', ?_, .inl ⟨e2, rfl⟩⟩
    unfold downD at e
    rw [List.getElem?_map] at e
    cases q : (List.range n)[i]? with
    | none => rw [q] at e; cases e
    | some j =>
      rw [q] at e
      have : j = i := by
        obtain ⟨h1, h2⟩ := List.getElem?_eq_some_iff.mp q
        simpa using h2.symm
      subst this
      cases e
      rfl
theorem wlk_rev {a : Addr} {us : List V} {xs : List D} {vs : List V} (h : ShA Hs xs us) (ha : H a = some (.lst us)) (hv : V.ref a ∈ vs) : Wlk Hs (Itv K a us.length) xs.reverse (Held vs H) := by
  refine ⟨fun i H' hi g => ?_, fun H' g => ?_, fun i H' v H2 Hs' x e g sb sub y => ?_⟩
  · have hi2 : i < us.length := by rw [← h.len]; simpa using hi
    have hj : us.length - 1 - i < us.length := by omega
    exact ⟨hi2, us, us[us.length - 1 - i], SqL.of (g a _ hv ha), List.getElem?_eq_getElem hj⟩
  · show us.length ≤ _
    rw [List.length_reverse, h.len]; exact Nat.le_refl _
  · obtain ⟨e2, y⟩ := y
    have y2 := y us (SqL.of (g a _ hv ha))
    refine ⟨Hs', Sh.mono sb (h.at ?_ y2), .inl ⟨e2, rfl⟩⟩
    have hi : i < xs.length := by
      have := (List.getElem?_eq_some_iff.mp e).1
      simpa using this
    rw [List.getElem?_reverse hi] at e
    rw [← h.len]; exact e
theorem wlk_revT {a : Addr} {us : List V} {xs : List D} {vs : List V} (h : ShA Hs xs us) (ha : H a = some (.tup us)) (hv : V.ref a ∈ vs) : Wlk Hs (RT.ItvT K a us.length) xs.reverse (Held vs H) := by
  refine ⟨fun i H' hi g => ?_, fun H' g => ?_, fun i H' v H2 Hs' x e g sb sub y => ?_⟩
  · have hi2 : i < us.length := by rw [← h.len]; simpa using hi
    have hj : us.length - 1 - i < us.length := by omega
    exact ⟨hi2, us, us[us.length - 1 - i], SqT.of (g a _ hv ha), List.getElem?_eq_getElem hj⟩
  · show us.length ≤ _
    rw [List.length_reverse, h.len]; exact Nat.le_refl _
  · obtain ⟨e2, y⟩ := y
    have y2 := y us (SqT.of (g a _ hv ha))
    refine ⟨Hs', Sh.mono sb (h.at ?_ y2), .inl ⟨e2, rfl⟩⟩
    have hi : i < xs.length := by
      have := (List.getElem?_eq_some_iff.mp e).1
      simpa using this
    rw [List.getElem?_reverse hi] at e
    rw [← h.len]; exact e
theorem enumD_len : ∀ (n : Nat) (xs : List D), (enumD n xs).length = xs.length
  | _, [] => rfl
  | n, x :: xs => by simp [enumD, enumD_len (n + 1) xs]
theorem enumD_at : ∀ (n : Nat) (xs : List D) (i : Nat), (enumD n xs)[i]? = xs[i]?.map fun x => .tup [.int ((n + i : Nat) : Int), x]
  | _, [], i => by simp [enumD]
  | n, x :: xs, 0 => by simp [enumD]
  | n, x :: xs, i + 1 => by
    have h := enumD_at (n + 1) xs i
    have e : n + 1 + i = n + (i + 1) := by omega
    simp only [enumD, List.getElem?_cons_succ, h, e]
theorem zipD_len : ∀ (xs ys : List D), (zipD xs ys).length = min xs.length ys.length
  | [], _ => by simp [zipD]
  | _ :: _, [] => by simp [zipD]
  | x :: xs, y :: ys => by simp [zipD, zipD_len xs ys]
theorem zipD_at : ∀ (xs ys : List D) (i : Nat) (z : D), (zipD xs ys)[i]? = some z → ∃ x y, xs[i]? = some x ∧ ys[i]? = some y ∧ z = .tup [x, y]
  | [], _, i, z, h => by simp [zipD] at h
  | _ :: _, [], i, z, h => by simp [zipD] at h
  | x :: xs, y :: ys, 0, z, h => by simp [zipD] at h; exact ⟨x, y, rfl, rfl, h.symm⟩
  | x :: xs, y :: ys, i + 1, z, h => by
    obtain ⟨a, b, h1, h2, h3⟩ := zipD_at xs ys i z (by simpa [zipD] using h)
    exact ⟨a, b, by simpa using h1, by simpa using h2, h3⟩
/-- a new pair -/
theorem pair_sh {T : Addr} {x y : V} {dx dy : D} {Hs' H' : Hp} (hT : H' T = none) (sub : Same Hs' H') (hx : Sh Hs' dx x) (hy : Sh Hs' dy y) : Sh (upd Hs' T (.tup [x, y])) (.tup [dx, dy]) (.ref T) := by
  have m : Same Hs' (upd Hs' T (.tup [x, y])) := same_upd (Same.free sub hT)
  exact ⟨T, [x, y], rfl, upd_same, x, [y], rfl, Sh.mono m hx, y, [], rfl, Sh.mono m hy, rfl⟩
theorem wlk_enum {a : Addr} {us : List V} {xs : List D} {vs : List V} (h : ShA Hs xs us) (ha : H a = some (.lst us)) (hv : V.ref a ∈ vs) : Wlk Hs (Ite K a) (enumD 0 xs) (Held vs H) := by
  refine ⟨fun i H' hi g => ?_, fun H' g => ?_, fun i H' v H2 Hs' x e g sb sub y => ?_⟩
  · rw [enumD_len] at hi
    obtain ⟨w, e, _⟩ := h.get (List.getElem?_eq_getElem hi)
    exact ⟨us, w, SqL.of (g a _ hv ha), e⟩
  · exact ⟨us, SqL.of (g a _ hv ha), by rw [enumD_len, h.len]; exact Nat.le_refl _⟩
  · obtain ⟨T, w, rfl, hT, rfl, y⟩ := y
    have y2 := y us (SqL.of (g a _ hv ha))
    rw [enumD_at] at e
    cases q : xs[i]? with
    | none => rw [q] at e; cases e
    | some z =>
      rw [q] at e
      simp only [Option.map_some, Option.some.injEq, Nat.zero_add] at e
      subst e
      exact ⟨_, pair_sh hT sub rfl (Sh.mono sb (h.at q y2)), .inr ⟨T, _, hT, rfl, rfl⟩⟩
theorem wlk_zip {a b : Addr} {us ws : List V} {xs ys : List D} {vs : List V} (h : ShA Hs xs us) (h2 : ShA Hs ys ws) (ha : H a = some (.lst us)) (hb : H b = some (.lst ws)) (hv : V.ref a ∈ vs) (hv2 : V.ref b ∈ vs) :
    Wlk Hs (Itz K a b) (zipD xs ys) (Held vs H) := by
  have l1 := h.len
  have l2 := h2.len
  refine ⟨fun i H' hi g => ?_, fun H' g => ?_, fun i H' v H2 Hs' x e g sb sub y => ?_⟩
  · rw [zipD_len] at hi
    obtain ⟨w, e, _⟩ := h.get (List.getElem?_eq_getElem (show i < xs.length by omega))
    obtain ⟨w2, e2, _⟩ := h2.get (List.getElem?_eq_getElem (show i < ys.length by omega))
    exact ⟨us, ws, w, w2, SqL.of (g a _ hv ha), SqL.of (g b _ hv2 hb), e, e2⟩
  · exact ⟨us, ws, SqL.of (g a _ hv ha), SqL.of (g b _ hv2 hb), by rw [zipD_len]; omega⟩
  · obtain ⟨T, w, w2, rfl, hT, rfl, y1, y2⟩ := y
    obtain ⟨dx, dy, e1, e2, rfl⟩ := zipD_at _ _ _ _ e
    exact ⟨_, pair_sh hT sub (Sh.mono sb (h.at e1 (y1 us (SqL.of (g a _ hv ha))))) (Sh.mono sb (h2.at e2 (y2 ws (SqL.of (g b _ hv2 hb))))), .inr ⟨T, _, hT, rfl, rfl⟩⟩
theorem wlk_zipT {a b : Addr} {us ws : List V} {xs ys : List D} {vs : List V} (h : ShA Hs xs us) (h2 : ShA Hs ys ws) (ha : H a = some (.tup us)) (hb : H b = some (.tup ws)) (hv : V.ref a ∈ vs) (hv2 : V.ref b ∈ vs) :
    Wlk Hs (RZ.ItzT K a b) (zipD xs ys) (Held vs H) := by
  have l1 := h.len
  have l2 := h2.len
  refine ⟨fun i H' hi g => ?_, fun H' g => ?_, fun i H' v H2 Hs' x e g sb sub y => ?_⟩
  · rw [zipD_len] at hi
    obtain ⟨w, e, _⟩ := h.get (List.getElem?_eq_getElem (show i < xs.length by omega))
    obtain ⟨w2, e2, _⟩ := h2.get (List.getElem?_eq_getElem (show i < ys.length by omega))
    exact ⟨us, ws, w, w2, SqT.of (g a _ hv ha), SqT.of (g b _ hv2 hb), e, e2⟩
  · exact ⟨us, ws, SqT.of (g a _ hv ha), SqT.of (g b _ hv2 hb), by rw [zipD_len]; omega⟩
  · obtain ⟨T, w, w2, rfl, hT, rfl, y1, y2⟩ := y
    obtain ⟨dx, dy, e1, e2, rfl⟩ := zipD_at _ _ _ _ e
    exact ⟨_, pair_sh hT sub (Sh.mono sb (h.at e1 (y1 us (SqT.of (g a _ hv ha))))) (Sh.mono sb (h2.at e2 (y2 ws (SqT.of (g b _ hv2 hb))))), .inr ⟨T, _, hT, rfl, rfl⟩⟩
end
/-! ### an iterable, whatever it is -/
section
variable {X : Cx} {tg : Expr}
/-- a list, a tuple, a text -/
def iSeq (K : PySem.W.Frag) (tl : TE) : TI := fun σ H R => tl σ H fun x H1 => (∃ a xs, x = .ref a ∧ SqL K H1 a xs ∧ R (Itl K a) H1) ∨ (∃ a xs, x = .ref a ∧ SqT K H1 a xs ∧ R (Itt K a) H1) ∨ ∃ z, x = .str z ∧ R (Its z) H1
theorem pi_seq {l : Expr} {tl : TE} (hl : PE X l tl) : PI X tg l (iSeq X.K tl) := by
  refine ⟨fun pins s σ H R I h => ?_⟩
  refine thn (hl.run pins s σ H _ I h) fun v s1 ⟨x, H1, I1, r1, q1⟩ => ?_
  rcases q1 with ⟨a, xs, e, hq, q⟩ | ⟨a, xs, e, hq, q⟩ | ⟨z, e, q⟩
  · subst e
    cases r1
    obtain ⟨its, rv, p, hz⟩ := I1.list hq
    refine wpAny_pyIter_list p.isList ?_
    refine ⟨s1.heap.objs.size, [s1.heap.objs.size], _, _, H1, rfl, I1.kept (t' := s1.toks) fun b o e => Heap.get?_push_of_some _ e, L2.turn_list a _, ⟨_, Heap.get?_push_size _ rfl, rfl, rfl⟩, fun b hb => ?_, q⟩
    have e : b = s1.heap.objs.size := by simpa using hb
    subst e
    exact I1.fpOk (Nat.le_refl _) (I1.hok.fresh (Nat.le_refl _))
  · subst e
    cases r1
    obtain ⟨its, rv, p, hz⟩ := I1.tuple hq
    refine wpAny_pyIter_tuple (show s1.heap.IsTuple a its.toArray from p) ?_
    refine ⟨s1.heap.objs.size, [s1.heap.objs.size], _, _, H1, rfl, I1.kept (t' := s1.toks) fun b o e => Heap.get?_push_of_some _ e, L2.turn_tuple a _, ⟨_, Heap.get?_push_size _ rfl, rfl, rfl⟩, fun b hb => ?_, q⟩
    have e : b = s1.heap.objs.size := by simpa using hb
    subst e
    exact I1.fpOk (Nat.le_refl _) (I1.hok.fresh (Nat.le_refl _))
  · subst e
    obtain ⟨t, rfl⟩ := r1
    cases ha : z.cps.all (· < 128)
    · exact wpAny_pyIter_wide ha (L2.pi_one (tk := s1.toks) I1 _ (L2.turn_str _ z t "str_iterator" (.inr rfl)) ⟨_, Heap.get?_push_size _ rfl, rfl, rfl⟩ q)
    · exact wpAny_pyIter_ascii ha (L2.pi_one (tk := s1.toks) I1 _ (L2.turn_str _ z t "str_ascii_iterator" (.inl rfl)) ⟨_, Heap.get?_push_size _ rfl, rfl, rfl⟩ q)
end
end Itp

/-! Grd: what a def promises where no text of a list is under way (guards = some []). -/
namespace Itp
open PySem PySem.Spec PyProof.Rows
open L2 (V Hp HO RelV VK XK Sp Cx Inv Room PE PA EP Vals Gl Binds FnScope)
theorem fresh_of_room {k : Nat} {A : Around} (r : Room k A) (env : Env) : (A.deeper env).handled = none := r.hd
/-- a def's promise -/
structure FnG (P : Program) (w : World) (K : PySem.W.Frag) (mg : Str → Option Value) (base : Heap) (k : Nat) (f : Addr) (fd : FuncData) (ps : List Str) (sp : Sp) : Prop where
  size : ∀ vs H Q E, sp vs H Q E → vs.length = ps.length
  go : ∀ (A : Around) (outer : List Env) (s : Shared) (H : Hp) (args : Args) (us : List Value) (vs : List V) (Q : VK) (E : XK),
    A.guards = some [] → Room k A → L2.Env0 P w K mg base A outer s H → BindsTo s fd args (ps.zip us) → Vals vs us → sp vs H Q E →
    codeAny (model P w) A (.call (.ref f) args) (L2.CR L2.CX0 outer P w H s Q E) s
section
variable {P : Program} {w : World} {K : PySem.W.Frag} {mg : Str → Option Value} {base : Heap} {k : Nat} {f : Addr} {fd : FuncData} {ps : List Str} {sp sp' : Sp}
theorem FnG.imp (F : FnG P w K mg base k f fd ps sp) (h : ∀ vs H Q E, sp' vs H Q E → sp vs H Q E) : FnG P w K mg base k f fd ps sp' where
  size := fun _ _ _ _ q => F.size _ _ _ _ (h _ _ _ _ q)
  go := fun A outer s H args us vs Q E g r e b v q => F.go A outer s H args us vs Q E g r e b v (h _ _ _ _ q)
end
/-- a body's end is a call's end -/
theorem ret_end {CX : L2.CXT} {P : Program} {w : World} {K : PySem.W.Frag} {mg : Str → Option Value} {base : Heap} {N : List Str} {qual : Str} {scope : Scope} {f : Addr} {cd : Value} {A : Around} {outer : List Env} {s s' : Shared} {H H' : Hp} {E : XK} {σ : L2.St} {v : V} {u : Value} {Q : VK}
    (J : Inv (L2.cxOf CX P w K mg base N qual scope f cd A outer s H E) [] σ H' s') (r : RelV v u) (q : Q v H') : L2.CE outer P w H s Q u s' := ⟨v, H', J.os, J.bare, J.base, J.hok, r, q⟩
theorem fnG_of {P : Program} {w : World} {K : PySem.W.Frag} {mg : Str → Option Value} {base : Heap} {k : Nat} {x qual : Str} {st : Stmt} {f : Addr} {fd : FuncData} {N ps : List Str} {sp : Sp} (F : L2.Fun K x qual st f fd) (S : FnScope N ps (L2.defScope st))
    (size : ∀ vs H Q E, sp vs H Q E → vs.length = ps.length)
    (body : ∀ (cdv : Value) (A : Around) (outer : List Env) (s : Shared) (H : Hp) (vs : List V) (Q : VK) (E : XK), A.guards = some [] → Room k (A.deeper (envOfC qual (L2.defScope st) s.heap.objs.size f cdv)) → sp vs H Q E →
      ∃ t, L2.PSs (L2.cxOf L2.CX0 P w K mg base N qual (L2.defScope st) f cdv A outer s H E).nox (L2.defBody st) t ∧ t { nx := fun _ H' => Q .non H', rt := Q } (L2.start N vs) H) : FnG P w K mg base (k + 1) f fd ps sp := by
  obtain ⟨oc, od, kV, doc, pm, an, cdv, ct, osl, rfl, lk, hcd⟩ := F.ex
  refine ⟨size, ?_⟩
  intro A outer s H args us vs Q E hgd room e0 bind rel hsp
  have grow : ∀ b o, base.get? b = some o → s.heap.get? b = some o := fun b o e => (e0.bs b o e).1
  have inK : K.In s.heap := e0.mod.kin.keeps grow
  have vl := size _ _ _ _ hsp
  refine codeAny_call_function room.depth (inK _ _ lk) rfl S.co S.gen rfl (PySem.W.codeRec_of inK hcd) (bind _ _ _ _ ?_)
  have kinds : ∀ y ∈ ps.zip us, (L2.defScope st).names.lookup y.1 = some .local ∨ ((L2.defScope st).names.lookup y.1 = some .cell ∧ ((cellsFrom (s.heap.objs.size + 1) (L2.defScope st).names []).lookup y.1).isSome = true) := by
    rintro ⟨n, v⟩ hy
    rcases S.par n (List.of_mem_zip hy).1 with q | q
    · exact .inl q
    · exact .inr ⟨q, PySem.W.cellsFrom_some _ _ _ (.inl q)⟩
  refine wpAny_newFunctionEnv_cells S.kind kinds ?_
  intro env he s1 x
  subst he
  refine ⟨(e0.mod.nolimit.keeps grow).keeps x.toInCall.keep, codeAny_func ?_⟩
  obtain ⟨t, ht, hq⟩ := body cdv A outer s H vs Q E hgd (room.deeper _) hsp
  have I := L2.inv_start (CX := L2.CX0) (cd := cdv) (E := E) S room.hd e0 vl rel x
  refine wpAny_mono (ht.nox.run [] s1 (L2.start N vs) H _ I hq) ?_ (fun _ _ z => z)
  intro fl s' z
  cases fl with
  | next =>
    obtain ⟨σ', H', J, q⟩ := z
    exact ret_end (v := V.non) (u := Value.none) J rfl q
  | ret u =>
    obtain ⟨v, σ', H', J, rv, q⟩ := z
    exact ret_end J rv q
  | brk =>
    obtain ⟨_, _, _, q⟩ := z
    exact q.elim
  | cont =>
    obtain ⟨_, _, _, q⟩ := z
    exact q.elim
section
variable {X : Cx} {k : Nat} {f : Addr} {fd : FuncData} {ps : List Str} {sp : Sp} {x : Str} {p pos : Pos} {e : Expr} {es : List Expr} {t : L2.TA}
theorem go_fn {pins : List (Addr × Obj)} {σ : L2.St} {H : Hp} {s : Shared} {Q : VK} {E : XK} {us : List Value} {vs : List V} (F : FnG X.prog X.w X.K X.mg X.base k f fd ps sp) (hgd : X.A.guards = some []) (hr : Room k X.A) (hb : Binds X.K fd ps [])
    (I : Inv X pins σ H s) (r : Vals vs us) (h : sp vs H Q E) : wpAny (model X.prog X.w) X.A (PySem.call (.ref f) us) (EP X pins σ Q) X.xe s := by
  have hl : (us ++ []).length = ps.length := by rw [List.append_nil, ← r.length]; exact F.size _ _ _ _ h
  have hb' := hb s us I.kIn hl
  rw [List.append_nil] at hb'
  refine wpAny_call (codeAny_mono (F.go X.A X.stack s H ⟨us, []⟩ us vs Q E hgd hr I.env0 hb' r h) ?_)
  intro r s' z
  cases r with
  | error e => exact (show False from z).elim
  | ok fl =>
    cases fl with
    | ret u => exact I.after z
    | next => exact (show False from z).elim
    | brk => exact (show False from z).elim
    | cont => exact (show False from z).elim
theorem pe_go (F : FnG X.prog X.w X.K X.mg X.base k f fd ps sp) (hgd : X.A.guards = some []) (hr : Room k X.A) (hg : Gl X x) (hm : X.mg x = some (.ref f)) (hk : PySem.W.keepIn X.K (.ref f) = true) (hb : Binds X.K fd ps []) (E : XK)
    (ha : PA X (e :: es) t) (hdb : (x == ("__debug__" : Str)) = false) (he : starEach (e :: es) X.env = (false, eval e X.env) :: starEach es X.env) (hpl : (backTo pos (starEach es X.env)).any (·.1) = false) :
    PE X (.Call (.Name x p) (e :: es) [] pos) fun σ H Q => t σ H fun vs H1 => sp vs H1 Q E := by
  constructor
  intro pins s σ H Q I h
  refine wpAny_Call_Name_kw (L2.ld_glob I hg hm ?_ hdb)
  refine PySem.W.callWith_K (h₀ := X.base) I.ok.mod.kin hk ?_ he hpl
  refine L2.thn (ha.run pos pins s σ H _ I h) fun us s1 z => ?_
  obtain ⟨vs, H1, I1, r, q⟩ := z
  exact ⟨I1.kIn, go_fn F hgd hr hb I1 r q⟩
theorem pe_go0 (F : FnG X.prog X.w X.K X.mg X.base k f fd ps sp) (hgd : X.A.guards = some []) (hr : Room k X.A) (hg : Gl X x) (hm : X.mg x = some (.ref f)) (hk : PySem.W.keepIn X.K (.ref f) = true) (hb : Binds X.K fd ps []) (E : XK)
    (hdb : (x == ("__debug__" : Str)) = false) : PE X (.Call (.Name x p) [] [] pos) fun _ H Q => sp [] H Q E := by
  constructor
  intro pins s σ H Q I h
  exact wpAny_Call_Name_kw (L2.ld_glob I hg hm (PySem.W.callWith_K0 I.kIn hk (go_fn (us := []) F hgd hr hb I .nil h)) hdb)
end
/-! ### .. of a def that may raise -/
structure FnX (P : Program) (w : World) (K : PySem.W.Frag) (mg : Str → Option Value) (base : Heap) (k : Nat) (f : Addr) (fd : FuncData) (ps : List Str) (sp : Sp) : Prop where
  size : ∀ vs H Q E, sp vs H Q E → vs.length = ps.length
  go : ∀ (A : Around) (outer : List Env) (s : Shared) (H : Hp) (args : Args) (us : List Value) (vs : List V) (Q : VK) (E : XK),
    A.guards = some [] → Room k A → L2.Env0 P w K mg base A outer s H → BindsTo s fd args (ps.zip us) → Vals vs us → sp vs H Q E →
    codeAny (model P w) A (.call (.ref f) args) (L2.CR (L2.CX P w) outer P w H s Q E) s
theorem fnX_of {P : Program} {w : World} {K : PySem.W.Frag} {mg : Str → Option Value} {base : Heap} {k : Nat} {x qual : Str} {st : Stmt} {f : Addr} {fd : FuncData} {N ps : List Str} {sp : Sp} (F : L2.Fun K x qual st f fd) (S : FnScope N ps (L2.defScope st))
    (size : ∀ vs H Q E, sp vs H Q E → vs.length = ps.length)
    (body : ∀ (cdv : Value) (A : Around) (outer : List Env) (s : Shared) (H : Hp) (vs : List V) (Q : VK) (E : XK), A.guards = some [] → Room k (A.deeper (envOfC qual (L2.defScope st) s.heap.objs.size f cdv)) → sp vs H Q E →
      ∃ t, L2.PSs (L2.cxOf (L2.CX P w) P w K mg base N qual (L2.defScope st) f cdv A outer s H E) (L2.defBody st) t ∧ t { nx := fun _ H' => Q .non H', rt := Q } (L2.start N vs) H) : FnX P w K mg base (k + 1) f fd ps sp := by
  obtain ⟨oc, od, kV, doc, pm, an, cdv, ct, osl, rfl, lk, hcd⟩ := F.ex
  refine ⟨size, ?_⟩
  intro A outer s H args us vs Q E hgd room e0 bind rel hsp
  have grow : ∀ b o, base.get? b = some o → s.heap.get? b = some o := fun b o e => (e0.bs b o e).1
  have inK : K.In s.heap := e0.mod.kin.keeps grow
  have vl := size _ _ _ _ hsp
  refine codeAny_call_function room.depth (inK _ _ lk) rfl S.co S.gen rfl (PySem.W.codeRec_of inK hcd) (bind _ _ _ _ ?_)
  have kinds : ∀ y ∈ ps.zip us, (L2.defScope st).names.lookup y.1 = some .local ∨ ((L2.defScope st).names.lookup y.1 = some .cell ∧ ((cellsFrom (s.heap.objs.size + 1) (L2.defScope st).names []).lookup y.1).isSome = true) := by
    rintro ⟨n, v⟩ hy
    rcases S.par n (List.of_mem_zip hy).1 with q | q
    · exact .inl q
    · exact .inr ⟨q, PySem.W.cellsFrom_some _ _ _ (.inl q)⟩
  refine wpAny_newFunctionEnv_cells S.kind kinds ?_
  intro env he s1 x
  subst he
  refine ⟨(e0.mod.nolimit.keeps grow).keeps x.toInCall.keep, codeAny_func ?_⟩
  obtain ⟨t, ht, hq⟩ := body cdv A outer s H vs Q E hgd (room.deeper _) hsp
  have I := L2.inv_start (CX := L2.CX P w) (cd := cdv) (E := E) S room.hd e0 vl rel x
  refine wpAny_mono (ht.run [] s1 (L2.start N vs) H _ I hq) ?_ (fun _ _ z => z)
  intro fl s' z
  cases fl with
  | next =>
    obtain ⟨σ', H', J, q⟩ := z
    exact ret_end (v := V.non) (u := Value.none) J rfl q
  | ret u =>
    obtain ⟨v, σ', H', J, rv, q⟩ := z
    exact ret_end J rv q
  | brk =>
    obtain ⟨_, _, _, q⟩ := z
    exact q.elim
  | cont =>
    obtain ⟨_, _, _, q⟩ := z
    exact q.elim
section
variable {X : Cx} {k : Nat} {f : Addr} {fd : FuncData} {ps : List Str} {sp : Sp} {x : Str} {p pos : Pos} {e : Expr} {es : List Expr} {t : L2.TA} {W : L2.WX}
theorem go_fnX {pins : List (Addr × Obj)} {σ : L2.St} {H : Hp} {s : Shared} {Q : VK} {us : List Value} {vs : List V} (F : FnX X.prog X.w X.K X.mg X.base k f fd ps sp) (tk : L2.Takes X W) (hgd : X.A.guards = some []) (hr : Room k X.A) (hb : Binds X.K fd ps [])
    (I : Inv X pins σ H s) (r : Vals vs us) (h : sp vs H Q fun cls d H' => W cls d σ H') : wpAny (model X.prog X.w) X.A (PySem.call (.ref f) us) (EP X pins σ Q) X.xe s := by
  have hl : (us ++ []).length = ps.length := by rw [List.append_nil, ← r.length]; exact F.size _ _ _ _ h
  have hb' := hb s us I.kIn hl
  rw [List.append_nil] at hb'
  refine wpAny_call (codeAny_mono (F.go X.A X.stack s H ⟨us, []⟩ us vs Q _ hgd hr I.env0 hb' r h) ?_)
  intro r s' z
  cases r with
  | error e => exact tk e s' (L2.XE.of_call I (fun _ _ _ h => h) z)
  | ok fl =>
    cases fl with
    | ret u => exact I.after z
    | next => exact (show False from z).elim
    | brk => exact (show False from z).elim
    | cont => exact (show False from z).elim
theorem pe_goX (F : FnX X.prog X.w X.K X.mg X.base k f fd ps sp) (tk : L2.Takes X W) (hgd : X.A.guards = some []) (hr : Room k X.A) (hg : Gl X x) (hm : X.mg x = some (.ref f)) (hk : PySem.W.keepIn X.K (.ref f) = true) (hb : Binds X.K fd ps [])
    (ha : PA X (e :: es) t) (hdb : (x == ("__debug__" : Str)) = false) (he : starEach (e :: es) X.env = (false, eval e X.env) :: starEach es X.env) (hpl : (backTo pos (starEach es X.env)).any (·.1) = false) :
    PE X (.Call (.Name x p) (e :: es) [] pos) fun σ H Q => t σ H fun vs H1 => sp vs H1 Q fun cls d H' => W cls d σ H' := by
  constructor
  intro pins s σ H Q I h
  refine wpAny_Call_Name_kw (L2.ld_glob I hg hm ?_ hdb)
  refine PySem.W.callWith_K (h₀ := X.base) I.ok.mod.kin hk ?_ he hpl
  refine L2.thn (ha.run pos pins s σ H _ I h) fun us s1 z => ?_
  obtain ⟨vs, H1, I1, r, q⟩ := z
  exact ⟨I1.kIn, go_fnX F tk hgd hr hb I1 r q⟩
theorem pe_goX0 (F : FnX X.prog X.w X.K X.mg X.base k f fd ps sp) (tk : L2.Takes X W) (hgd : X.A.guards = some []) (hr : Room k X.A) (hg : Gl X x) (hm : X.mg x = some (.ref f)) (hk : PySem.W.keepIn X.K (.ref f) = true) (hb : Binds X.K fd ps [])
    (hdb : (x == ("__debug__" : Str)) = false) : PE X (.Call (.Name x p) [] [] pos) fun σ H Q => sp [] H Q fun cls d H' => W cls d σ H' := by
  constructor
  intro pins s σ H Q I h
  exact wpAny_Call_Name_kw (L2.ld_glob I hg hm (PySem.W.callWith_K0 I.kIn hk (go_fnX (us := []) F tk hgd hr hb I .nil h)) hdb)
end
/-! ### the law's own call, from the top -/
theorem law_go {P : Program} {w : World} {K : PySem.W.Frag} {mg mb : Str → Option Value} {k : Nat} {fa a : Addr} {fd : FuncData} {x : Str} {sp : Sp} {s₁ : Shared} {vs : List Value} {ns : List Int}
    (KX : K.In s₁.heap) (hns : s₁.heap.Ns mainGlobals mg) (hb : s₁.heap.Ns builtinsNs mb) (hbb : ∀ x : Str, x ≠ "__name__" → mb x = bootBuiltins x) (hlim : s₁.heap.NoLimit) (hg : s₁.gens = #[])
    (ha : s₁.heap.get? a = some { cls := .type "list", data := .seq vs.toArray }) (hi : IntsAre vs ns) (hl : ns.length ≤ sizeLine) (hr : Room k callerA)
    (F : ∀ base : Heap, K.In base → base.Ns mainGlobals mg → FnG P w K mg base k fa fd [x] sp) (hbind : ∀ (s : Shared) (u : Value), BindsTo s fd ⟨[u], []⟩ [(x, u)])
    (hsp : ∀ H : Hp, L2.Only H → L2.SqL K H a (ns.map V.int) → sp [.ref a] H (fun v _ => v = .bl true) fun _ _ _ => False) :
    codeAny (model P w) callerA (.call (.ref fa) ⟨[.ref a], []⟩) (fun r s' => r = .ok (.ret (.bool true)) ∧ OldK s₁.heap s'.heap ∧ s'.os = s₁.os ∧ AllBare s'.gens) s₁ := by
  have rv := L2.vals_ints hi
  have lenV := hi.length
  let goal := codeAny (model P w) callerA (.call (.ref fa) ⟨[.ref a], []⟩) (fun r s' => r = .ok (.ret (.bool true)) ∧ OldK s₁.heap s'.heap ∧ s'.os = s₁.os ∧ AllBare s'.gens) s₁
  -- H: the script alone may stand in it
  have main : ∀ H : Hp, L2.Only H → L2.SqL K H a (ns.map V.int) → L2.HOk P w H s₁.heap → (∀ b, H b ≠ none → b = a) → (H a ≠ none → K.lookup a = none) → goal := by
    intro H only seq hok onlyA notK
    have isA : ∀ {b : Addr} {u : HO}, H b = some u → b = a := fun {b u} e => onlyA b (by rw [e]; exact Option.some_ne_none u)
    have noDict : ∀ {b : Addr} {o : Obj} {es : Array DictEntry} {ep : Nat}, s₁.heap.get? b = some o → o.data = .dict es ep → H b = none := by
      intro b o es ep e d
      cases q : H b with
      | none => rfl
      | some u =>
        cases isA q
        rw [ha] at e
        cases e
        exact absurd (show Data.seq vs.toArray _ = Data.dict es ep from d) (fun z => by cases z)
    have nsUp : ∀ {b : Addr} {m : Str → Option Value}, s₁.heap.Ns b m → (L2.hidT s₁.heap H).Ns b m := by
      rintro b m ⟨o, es, ep, e, d, r⟩
      exact ⟨o, es, ep, L2.hidT_get e (noDict e d), d, r⟩
    have inK : K.In (L2.hidT s₁.heap H) := by
      intro b o e
      refine L2.hidT_get (KX b o e) ?_
      cases q : H b with
      | none => rfl
      | some u =>
        cases isA q
        rw [notK (by rw [q]; exact Option.some_ne_none u)] at e
        cases e
    have limUp : (L2.hidT s₁.heap H).NoLimit := by
      obtain ⟨mc, h1, h2⟩ := hlim
      exact ⟨mc, nsUp h1, h2⟩
    have e0 : L2.Env0 P w K mg (L2.hidT s₁.heap H) callerA [] s₁ H :=
      { frames := rfl, mod := ⟨inK, nsUp hns, ⟨mb, nsUp hb, hbb⟩, limUp⟩, bs := fun b o e => L2.of_hidT e, bsz := Nat.le_of_eq (L2.hidT_size _ _), funs := trivial,
        frf := fun b hb => (nomatch (show b ∈ ([] : List Addr) from hb)), hok := hok, bare := .of_eq hg }
    refine codeAny_mono ((F _ inK (nsUp hns)).go callerA [] s₁ H ⟨[.ref a], []⟩ [.ref a] [.ref a] _ _ rfl hr e0 (hbind s₁ (.ref a)) (.cons rfl .nil) (hsp H only seq)) ?_
    intro r s' z
    cases r with
    | error e => exact (show False from z).elim
    | ok fl =>
      cases fl with
      | next => exact (show False from z).elim
      | brk => exact (show False from z).elim
      | cont => exact (show False from z).elim
      | ret u =>
        obtain ⟨v, H', os, bare, un, hok', r', q⟩ := z
        cases (show v = V.bl true from q)
        cases (show u = Value.bool true from r')
        refine ⟨rfl, OldK.of_keep ?_, os, bare⟩
        intro b o e
        cases q : H b with
        | none => exact un.keep b o e q (fun z => nomatch (show b ∈ ([] : List Addr) from z)) (by simp)
        | some u =>
          rcases only b with z | ⟨ob, xs, z⟩
          · rw [q] at z; cases z
          · have z2 := un.frzs b ob _ z
            have e1 := (hok b _ z).1
            have e2 := (hok' b _ z2).1
            rw [e] at e1
            cases e1
            exact e2
  have vls : vs.toArray.size ≤ sizeLine := by rw [List.size_toArray, lenV]; exact hl
  cases hk : K.lookup a with
  | some o =>
    have e := KX a o hk
    rw [ha] at e
    cases e
    refine main (fun _ => none) (fun _ => .inl rfl) (.inr ⟨_, vs.toArray, _, hk, rfl, rfl, rfl, vls, by simpa using rv⟩) ?_ (fun b z => (z rfl).elim) (fun z => (z rfl).elim)
    intro b u z
    exact nomatch (show (none : Option HO) = some u from z)
  | none =>
    refine main (fun b => if b = a then some (.frz { cls := .type "list", data := .seq vs.toArray } (.lst (ns.map V.int))) else none) ?_ (.inl (.inr ⟨{ cls := .type "list", data := .seq vs.toArray }, if_pos rfl⟩)) ?_ ?_ (fun _ => hk)
    · intro b
      by_cases z : b = a
      · exact .inr ⟨_, _, if_pos z⟩
      · exact .inl (if_neg z)
    · intro b u q
      by_cases z : b = a
      · subst z
        cases (if_pos rfl).symm.trans q
        exact ⟨ha, by rw [List.length_map]; exact hl, vs, _, rv, ha⟩
      · exact nomatch (if_neg z).symm.trans q
    · intro b q
      by_cases z : b = a
      · exact z
      · exact absurd (if_neg z) q
theorem walk_go {l : PySem.W.OpenLaw} {n k : Nat} {q : Program} {loose : List Str} {XP : (Str → Option Value) → Heap → Prop} {YP : World → Heap → Prop} {d : DefRec} {K : Params → PySem.W.Frag} {sp : World → Sp} {x : Str}
    (hn : l.most = some n) (hn2 : n ≤ sizeLine) (hdf : d.params.defaults = []) (hr : Room k callerA) (hY : ∀ (w : World) (h : Heap), YP w h → (K w.params).In h)
    (F : ∀ (w : World) (mg : Str → Option Value) (fa : Addr) (h : Heap), (K w.params).In h → h.Ns mainGlobals mg → mg d.name = some (.ref fa) →
      ∃ fd : FuncData, (∀ (s : Shared) (u : Value), BindsTo s fd ⟨[u], []⟩ [(x, u)]) ∧ ∀ base : Heap, (K w.params).In base → base.Ns mainGlobals mg → FnG l.prog w (K w.params) mg base k fa fd [x] (sp w))
    (hsp : ∀ (w : World) (H : Hp) (a : Addr) (ns : List Int), ns.length ≤ n → L2.Only H → L2.SqL (K w.params) H a (ns.map V.int) → sp w [.ref a] H (fun v _ => v = .bl true) fun _ _ _ => False) :
    PySem.W.WalkO q loose XP YP l.row.toRowW d [] (fun f vs => PySem.call f vs) := by
  refine Att.attach_call hn hdf ?_
  intro w s₀ s₁ mg mb fa o pm cd doc a vs ns G Y ho hd hcd hmg hobj hints hlen hg
  have inK := hY w _ Y
  obtain ⟨fd, bind, fn⟩ := F w mg fa _ inK G.T.g hmg
  exact law_go inK G.T.g G.T.b G.T.builtins G.T.nolimit hg hobj hints (Nat.le_trans hlen hn2) hr fn bind fun H o z => hsp w H a ns hlen o z
end Itp

/-! Iter2: enumerate over a tuple. -/
namespace Itp
open PySem PySem.Spec PyProof.Rows
open L2 (V Hp HO upd upd_same upd_ne Inv SqL SqT It TI TA PI PA thn Turn Ite Gl ObjOk)
section
theorem enum_new {v : Value} {o : Obj} {G : Heap → Prop} (B : Begins v o G) :
    Meets (Builtin.«enumerate.__new__» ⟨[.type "enumerate", v], []⟩) (fun _ R s => G s.heap ∧ R (.ok (.ret (.ref (s.heap.push o).objs.size)))
      { s with heap := (s.heap.push o).push { cls := .type "enumerate", data := .fields #[.none, .bool false, .ref s.heap.objs.size, rawInt 0, .none, .none] } }) :=
  .of_wp fun P W A R s hyp => by
    obtain ⟨hp, gg, dd, tt, oo⟩ := s
    obtain ⟨g1, hyp⟩ := hyp
    have isub := sub_enumerate
    have begin_ : ∀ {A' : Around} {E' : Value → Shared → Prop} {Q' : Value → Shared → Prop}, Q' (.ref hp.objs.size) ⟨hp.push o, gg, dd, tt, oo⟩ → wpAny (model P W) A' (pyIter v) Q' E' ⟨hp, gg, dd, tt, oo⟩ := fun q => B.iter P W _ _ ⟨hp, gg, dd, tt, oo⟩ _ g1 q
    wp_walk using begin_
    refine wpAny_stack_any (fun stk => wpAny_pure ?_)
    split
    · rename_i cc _ _ _ _ _
      cases (cc == Value.type "enumerate")
      · wp_walk using begin_
        exact ⟨_, rfl, hyp⟩
      · wp_walk using begin_
        exact ⟨_, rfl, hyp⟩
    · wp_walk using begin_
      exact ⟨_, rfl, hyp⟩
end
section
variable {prog : Program} {w : World} {A : Around} {E : Value → Shared → Prop} {s : Shared}
theorem enum_call {v : Value} {o : Obj} {G : Heap → Prop} {Q : Value → Shared → Prop} (B : Begins v o G) (g : G s.heap)
    (h : ∀ h', IsEnum h' (s.heap.objs.size + 1) s.heap.objs.size 0 .none → h'.get? s.heap.objs.size = some o → (∀ b u, s.heap.get? b = some u → h'.get? b = some u) → Q (.ref (s.heap.objs.size + 1)) { s with heap := h' }) :
    wpAny (model prog w) A (PySem.call (.type "enumerate") [v]) Q E s := by
  refine callType_new F.called_enumerate (by decide) (F.typeCall_enumerate_1 v) (F.newCall_enumerate_1 v) (fun ob => F.args_object_init_2 ob v) F.entry_enumerate_new (enum_new B) ⟨g, ?_⟩
  have sz : (s.heap.push o).objs.size = s.heap.objs.size + 1 := Heap.size_push ..
  show _ ∧ _
  rw [sz]
  have ie : IsEnum ((s.heap.push o).push { cls := .type "enumerate", data := .fields #[.none, .bool false, .ref s.heap.objs.size, rawInt 0, .none, .none] }) (s.heap.objs.size + 1) s.heap.objs.size 0 .none := by
    have z := Heap.get?_push_size (s.heap.push o) (o := { cls := .type "enumerate", data := .fields #[.none, .bool false, .ref s.heap.objs.size, rawInt 0, .none, .none] }) rfl
    rw [sz] at z
    exact z
  exact ⟨⟨_, ie, rfl⟩, h _ ie (Heap.get?_push_of_some _ (Heap.get?_push_size _ B.free)) fun b u x => Heap.get?_push_of_some _ (Heap.get?_push_of_some _ x)⟩
end
/-- the tuple at a, each item in a new pair -/
def IteT (K : PySem.W.Frag) (a : Addr) : It :=
  ⟨fun i H => ∃ (us : List V) (u : V), SqT K H a us ∧ us[i]? = some u, fun i H v H' => ∃ T u, v = .ref T ∧ H T = none ∧ H' = upd H T (.tup [.int (i : Nat), u]) ∧ ∀ us, SqT K H a us → us[i]? = some u, fun i H => ∃ us : List V, SqT K H a us ∧ us.length ≤ i⟩
theorem turn_enumT {P : Program} {w : World} {K : PySem.W.Frag} {elts : List Expr} {kk : Nat} {tpos : Pos} (a e it : Addr) :
    Turn P w K (.Tuple elts kk tpos) (IteT K a) [e, it] e (fun i h => (∃ old, IsEnum h e it ((i : Nat) : Int) old) ∧ h.IsTupleIter it a i ∧ e ≠ it ∧ a ≠ it ∧ e ≠ a) where
  mem := by simp
  obj := fun i h st b hb => by
    obtain ⟨⟨old, he⟩, ⟨o, ho, hc, hd⟩, _⟩ := st
    rcases (show b = e ∨ b = it by simpa using hb) with z | z
    · rw [z]; exact ⟨_, he, fun v q => nomatch q⟩
    · rw [z]; exact ⟨o, ho, fun v q => by rw [hd] at q; cases q⟩
  keep := fun i h h' st k => let ⟨⟨old, he⟩, hi, hne⟩ := st; ⟨⟨old, k e (by simp) _ he⟩, hi.at fun o q => k it (by simp) o q, hne⟩
  item := by
    intro X hP hw hK hc i pins s σ H E I hf st hg
    subst hP hw hK
    obtain ⟨⟨old, he⟩, hit, hne, hai, hea⟩ := st
    obtain ⟨us, u, hq, hu⟩ := hg
    obtain ⟨its, rv, tp, hz⟩ := I.tuple hq
    obtain ⟨y, hy, ry⟩ := rv.get hu
    have hel : e < s.heap.objs.size := Heap.lt_size he
    have hil : it < s.heap.objs.size := by obtain ⟨_, q, _⟩ := hit; exact Heap.lt_size q
    have hd : X.A.in1.handled = none := I.ok.hd hc
    have li : i < its.toArray.size := by
      have := (List.getElem?_eq_some_iff.mp hy).1
      simpa using this
    refine wpAny_pyNext_enum_itemD (PySem.Draws.tuple hd it a hai its.toArray) he ⟨hit, tp⟩ li hne (by simp [hne, hea]) fun x h' tk hx ho hst hT hsz hk => ?_
    have ex : x = y := by
      have : its.toArray[i]? = some x := hx
      rw [List.getElem?_toArray, hy] at this
      exact (Option.some.inj this).symm
    subst ex
    refine ⟨_, rfl, wpAny_letOwnedTupleGo_enum (s := { s with heap := h', toks := tk + 1 }) ho fun h'' he' sb => ?_⟩
    have hT2 : h''.get? s.heap.objs.size = some { cls := .type "tuple", data := .seq #[.int i tk, x] } := (sb.2 _ (Nat.ne_of_gt hel)).trans hT
    have new : ObjOk X.prog X.w (upd H s.heap.objs.size (.tup [.int (i : Nat), u])) h'' s.heap.objs.size (.tup [.int (i : Nat), u]) :=
      ⟨by show 2 ≤ sizeLine; decide, [.int i tk, x], .cons ⟨_, rfl⟩ (.cons ry .nil), ⟨_, hT2, rfl, _, rfl⟩⟩
    have I1 : Inv X pins σ (upd H s.heap.objs.size (.tup [.int (i : Nat), u])) { s with heap := h'', toks := tk + 1 } :=
      I.turnedNew (ch := [e, it]) (fun b ob hb q => (sb.2 b (fun z => hb (by simp [z]))).trans (hk b ob (fun z => hb (by simp [z])) (fun z => hb (by simp [z])) q)) hf (Nat.le_refl _) new
    refine ⟨.ref s.heap.objs.size, _, I1, rfl, ⟨_, u, rfl, I.hok.fresh (Nat.le_refl _), rfl, fun vs hv => by rw [I.tuple_inj hv hq]; exact hu⟩, ⟨⟨x, ?_⟩, hst.1.at fun o q => (sb.2 it (Ne.symm hne)).trans q, hne, hai, hea⟩, fun b hb => ?_⟩
    · rw [show ((i + 1 : Nat) : Int) = (i : Int) + 1 by omega]; exact he'
    · have lb : b < s.heap.objs.size := by
        rcases (show b = e ∨ b = it by simpa using hb) with z | z
        · rw [z]; exact hel
        · rw [z]; exact hil
      rw [upd_ne (Nat.ne_of_lt lb)]
      exact (hf b hb).1
  done := by
    intro X hP hw hK hc i pins s σ H E I hf st hg
    subst hP hw hK
    obtain ⟨⟨old, he⟩, hit, hne, hai, hea⟩ := st
    obtain ⟨us, hq, hl⟩ := hg
    obtain ⟨its, rv, tp, hz⟩ := I.tuple hq
    obtain ⟨f0, f1, f2, f3, f4, f5⟩ := hf it (by simp)
    have hd : X.A.in1.handled = none := I.ok.hd hc
    have le : its.length ≤ i := by rw [← rv.length]; exact hl
    have dd : PySem.Draws X.prog X.w X.A.in1 it [it, a] i (fun _ _ => False) (fun j h => j = i ∧ h.IsTupleIter it a i ∧ h.IsTuple a its.toArray) := {
      live := fun _ _ st => let ⟨o, ho, _⟩ := st.2.1; ⟨o, ho⟩
      frame := fun _ _ _ st hk => ⟨st.1, st.2.1.at fun o q => hk it (by simp) o q, st.2.2.at fun o q => hk a (by simp) o q⟩
      item := fun j s Q E lt st => absurd st.1 (Nat.ne_of_lt lt)
      done := fun s Q E st hE => wpAny_nextOf_tuple_end hd st.2.1 st.2.2 (by simpa using le) hE }
    exact wpAny_pyNext_enum_endD dd he ⟨rfl, hit, tp⟩ fun h' eb => ⟨rfl, I.turned (t' := s.toks) (fun b o hb q => eb b o hb q) f0 f1 f3 f4 f5⟩
  self := fun A i s Q E st h => let ⟨⟨_, he⟩, _⟩ := st; wpAny_pyIter_enum he h
/-- enumerate over a list or a tuple -/
def iEnumA (K : PySem.W.Frag) (ta : TA) : TI := fun σ H R => ta σ H fun vs H1 => ∃ a us, vs = [.ref a] ∧ ((SqL K H1 a us ∧ R (Ite K a) H1) ∨ (SqT K H1 a us ∧ R (IteT K a) H1))
theorem pi_enumA {X : L2.Cx} {e : Expr} {ta : TA} {p pos tpos : Pos} {elts : List Expr} {kk : Nat} (hg : Gl X "enumerate") (hm : X.mg "enumerate" = none) (ha : PA X [e] ta) (hs : starEach [e] X.env = [(false, eval e X.env)]) :
    PI X (.Tuple elts kk tpos) (.Call (.Name "enumerate" p) [e] [] pos) (iEnumA X.K ta) := by
  refine ⟨fun pins s σ H R I h => ?_⟩
  refine Call_ (L2.ld_blt I hg hm boot_enumerate (PyProof.Rows.callWith_type1 (thn (ha.run pos pins s σ H _ I h) fun us s1 ⟨vs, H1, I1, r1, q1⟩ => ?_) hs rfl))
  obtain ⟨a, ws, rfl, q1⟩ := q1
  obtain ⟨y, rfl, ry⟩ : ∃ y, us = [y] ∧ L2.RelV (.ref a) y := by
    cases r1 with
    | cons r rr => cases rr; exact ⟨_, rfl, r⟩
  cases ry
  have two : ∀ b, b ∈ [s1.heap.objs.size + 1, s1.heap.objs.size] → L2.FpOk X pins H1 b := fun b hb => by
    have hle : s1.heap.objs.size ≤ b := by
      rcases (show b = s1.heap.objs.size + 1 ∨ b = s1.heap.objs.size by simpa using hb) with z | z
      · rw [z]; exact Nat.le_add_right _ _
      · rw [z]; exact Nat.le_refl _
    exact I1.fpOk hle (I1.hok.fresh hle)
  rcases q1 with ⟨hq, q⟩ | ⟨hq, q⟩
  · obtain ⟨its, rv, lp, hz⟩ := I1.list hq
    refine enum_call (begins_list a its.toArray) lp.isList fun h' he ho hk => wpAny_pyIter_enum he ?_
    exact ⟨s1.heap.objs.size + 1, [s1.heap.objs.size + 1, s1.heap.objs.size], _, _, H1, rfl, I1.kept (t' := s1.toks) hk, L2.turn_enum a (s1.heap.objs.size + 1) s1.heap.objs.size, ⟨⟨.none, he⟩, ⟨_, ho, rfl, rfl⟩, Nat.succ_ne_self _⟩, two, q⟩
  · obtain ⟨its, rv, tp, hz⟩ := I1.tuple hq
    have la : a < s1.heap.objs.size := by obtain ⟨o, q, _⟩ := id tp; exact Heap.lt_size q
    refine enum_call (begins_tuple a its.toArray) (show s1.heap.IsTuple a its.toArray from tp) fun h' he ho hk => wpAny_pyIter_enum he ?_
    exact ⟨s1.heap.objs.size + 1, [s1.heap.objs.size + 1, s1.heap.objs.size], _, _, H1, rfl, I1.kept (t' := s1.toks) hk, turn_enumT a (s1.heap.objs.size + 1) s1.heap.objs.size, ⟨⟨.none, he⟩, ⟨_, ho, rfl, rfl⟩, Nat.succ_ne_self _, Nat.ne_of_lt la, Ne.symm (Nat.ne_of_lt (Nat.lt_succ_of_lt la))⟩, two, q⟩
variable [KF]
section
variable {Hs H : Hp} {K : PySem.W.Frag}
theorem wlk_enumT {a : Addr} {us : List V} {xs : List D} {vs : List V} (h : ShA Hs xs us) (ha : H a = some (.tup us)) (hv : V.ref a ∈ vs) : Wlk Hs (IteT K a) (enumD 0 xs) (Held vs H) := by
  refine ⟨fun i H' hi g => ?_, fun H' g => ?_, fun i H' v H2 Hs' x e g sb sub y => ?_⟩
  · rw [enumD_len] at hi
    obtain ⟨w, e, _⟩ := h.get (List.getElem?_eq_getElem hi)
    exact ⟨us, w, L2.SqT.of (g a _ hv ha), e⟩
  · exact ⟨us, L2.SqT.of (g a _ hv ha), by rw [enumD_len, h.len]; exact Nat.le_refl _⟩
  · obtain ⟨T, w, rfl, hT, rfl, y⟩ := y
    have y2 := y us (L2.SqT.of (g a _ hv ha))
    rw [enumD_at] at e
    cases q : xs[i]? with
    | none => rw [q] at e; cases e
    | some z =>
      rw [q] at e
      simp only [Option.map_some, Option.some.injEq, Nat.zero_add] at e
      subst e
      exact ⟨_, pair_sh hT sub rfl (Sh.mono sb (h.at q y2)), .inr ⟨T, _, hT, rfl, rfl⟩⟩
end
end Itp

/-! Iter3: zip of a list and a tuple, in whatever order. -/
namespace Itp
open PySem PySem.Spec PyProof.Rows
open L2 (V Hp HO upd upd_same upd_ne Inv SqL SqT It TI TA PI PA thn Turn Ite Gl ObjOk)
/-- a tuple (t), else a list -/
def SqB (t : Bool) (K : PySem.W.Frag) (H : Hp) (a : Addr) (us : List V) : Prop := match t with
  | true => SqT K H a us
  | false => SqL K H a us
def itB (t : Bool) (h : Heap) (it a : Addr) (i : Nat) : Prop := match t with
  | true => h.IsTupleIter it a i
  | false => h.IsListIter it a i
def sqB (t : Bool) (h : Heap) (a : Addr) (its : Array Value) : Prop := match t with
  | true => h.IsTuple a its
  | false => h.IsList a its
def obB (t : Bool) (a : Addr) : Obj := match t with
  | true => { cls := .type "tuple_iterator", data := .fields #[.ref a, .int 0 0] }
  | false => { cls := .type "list_iterator", data := .fields #[.ref a, .int 0 0] }
theorem begB (t : Bool) (a : Addr) (its : Array Value) : Begins (.ref a) (obB t a) fun h => sqB t h a its := by
  cases t
  · exact begins_list a its
  · exact begins_tuple a its
theorem itB_new {t : Bool} {h : Heap} {it a : Addr} (e : h.get? it = some (obB t a)) : itB t h it a 0 := by
  cases t
  · exact ⟨_, e, rfl, rfl⟩
  · exact ⟨_, e, rfl, rfl⟩
theorem itB_at {t : Bool} {h h' : Heap} {it a : Addr} {i : Nat} (x : itB t h it a i) (k : ∀ o, h.get? it = some o → h'.get? it = some o) : itB t h' it a i := by
  cases t
  · exact Heap.IsListIter.at x k
  · exact Heap.IsTupleIter.at x k
theorem itB_obj {t : Bool} {h : Heap} {it a : Addr} {i : Nat} (x : itB t h it a i) : ∃ o, h.get? it = some o ∧ ∀ v, o.data ≠ .cell v := by
  cases t
  · obtain ⟨o, e, _, d⟩ := x
    exact ⟨o, e, fun v q => by rw [d] at q; cases q⟩
  · obtain ⟨o, e, _, d⟩ := x
    exact ⟨o, e, fun v q => by rw [d] at q; cases q⟩
theorem dwB (t : Bool) {P : Program} {W : World} {A : Around} (hd : A.handled = none) (it a : Addr) (ne : a ≠ it) (its : Array Value) :
    PySem.Draws P W A it [it, a] its.size (fun i v => its[i]? = some v) (fun i h => itB t h it a i ∧ sqB t h a its) := by
  cases t
  · exact PySem.Draws.list hd it a ne its
  · exact PySem.Draws.tuple hd it a ne its
/-- an iterator at its end -/
theorem dwEnd (t : Bool) {P : Program} {W : World} {A : Around} (hd : A.handled = none) (it a : Addr) (its : Array Value) {i : Nat} (le : its.size ≤ i) :
    PySem.Draws P W A it [it, a] i (fun _ _ => False) (fun j h => j = i ∧ itB t h it a i ∧ sqB t h a its) where
  live := fun _ _ st => let ⟨o, e, _⟩ := itB_obj st.2.1; ⟨o, e⟩
  frame := fun _ _ _ st hk => ⟨st.1, itB_at st.2.1 fun o q => hk it (by simp) o q, by
    cases t
    · exact Heap.IsList.at st.2.2 fun o q => hk a (by simp) o q
    · exact Heap.IsTuple.at st.2.2 fun o q => hk a (by simp) o q⟩
  item := fun j s Q E lt st => absurd st.1 (Nat.ne_of_lt lt)
  done := fun s Q E st hE => by
    cases t
    · exact wpAny_nextOf_list_end hd st.2.1 st.2.2 (by simpa using le) hE
    · exact wpAny_nextOf_tuple_end hd st.2.1 st.2.2 (by simpa using le) hE
theorem sqB_inv {t : Bool} {X : L2.Cx} {pins : List (Addr × Obj)} {σ : L2.St} {H : Hp} {s : Shared} (I : Inv X pins σ H s) {a : Addr} {us : List V} (q : SqB t X.K H a us) :
    ∃ its : List Value, L2.Vals us its ∧ sqB t s.heap a its.toArray ∧ a < s.heap.objs.size := by
  cases t
  · obtain ⟨its, rv, lp, _⟩ := I.list q
    exact ⟨its, rv, lp.isList, lp.lt⟩
  · obtain ⟨its, rv, tp, _⟩ := I.tuple q
    exact ⟨its, rv, tp, by obtain ⟨o, e, _⟩ := id tp; exact Heap.lt_size e⟩
theorem sqB_inj {t : Bool} {X : L2.Cx} {pins : List (Addr × Obj)} {σ : L2.St} {H : Hp} {s : Shared} (I : Inv X pins σ H s) {a : Addr} {us ws : List V} (q : SqB t X.K H a us) (q2 : SqB t X.K H a ws) : us = ws := by
  cases t
  · exact I.list_inj q q2
  · exact I.tuple_inj q q2
/-- both walked at once, each two items in a new pair -/
def ItzM (K : PySem.W.Frag) (t1 t2 : Bool) (a b : Addr) : It :=
  ⟨fun i H => ∃ (us ws : List V) (u w : V), SqB t1 K H a us ∧ SqB t2 K H b ws ∧ us[i]? = some u ∧ ws[i]? = some w,
    fun i H v H' => ∃ T u w, v = .ref T ∧ H T = none ∧ H' = upd H T (.tup [u, w]) ∧ (∀ us, SqB t1 K H a us → us[i]? = some u) ∧ ∀ ws, SqB t2 K H b ws → ws[i]? = some w,
    fun i H => ∃ us ws : List V, SqB t1 K H a us ∧ SqB t2 K H b ws ∧ (us.length ≤ i ∨ ws.length ≤ i)⟩
theorem no2 {x a b : Addr} (h : x ≠ a) (h2 : x ≠ b) : x ∉ [a, b] := fun z => by
  rcases List.mem_cons.mp z with z | z
  · exact h z
  · exact h2 (List.mem_singleton.mp z)
theorem five {z TI TO i1 i2 c : Addr} (h : c ∈ [z, TI, TO, i1, i2]) : c = z ∨ c = TI ∨ c = TO ∨ c = i1 ∨ c = i2 := by simpa using h
theorem turn_zipM {P : Program} {w : World} {K : PySem.W.Frag} {elts : List Expr} {kk : Nat} {tpos : Pos} {t1 t2 : Bool} {a b z TI TO i1 i2 : Addr} (S : ZipSep2 z TI TO i1 i2 [i1, a] [i2, b]) (n1 : a ≠ i1) (n2 : b ≠ i2) :
    Turn P w K (.Tuple elts kk tpos) (ItzM K t1 t2 a b) [z, TI, TO, i1, i2] z (fun i h => IsZip h z TI TO .none ∧ IsTupOf2 h TI (.ref i1) (.ref i2) ∧ (∃ x y, IsTupOf2 h TO x y) ∧ itB t1 h i1 a i ∧ itB t2 h i2 b i) where
  mem := List.mem_cons_self
  obj := fun i h st c hc => by
    obtain ⟨hz, hTI, ⟨x, y, hTO⟩, h1, h2⟩ := st
    rcases five hc with rfl | rfl | rfl | rfl | rfl
    · exact ⟨_, hz, fun v q => nomatch q⟩
    · exact ⟨_, hTI, fun v q => nomatch q⟩
    · exact ⟨_, hTO, fun v q => nomatch q⟩
    · exact itB_obj h1
    · exact itB_obj h2
  keep := fun i h h' st k => by
    obtain ⟨hz, hTI, ⟨x, y, hTO⟩, h1, h2⟩ := st
    exact ⟨k _ (by simp) _ hz, k _ (by simp) _ hTI, ⟨x, y, k _ (by simp) _ hTO⟩, itB_at h1 fun o e => k _ (by simp) o e, itB_at h2 fun o e => k _ (by simp) o e⟩
  item := by
    intro X hP hw hK hc i pins s σ H E I hf st hg
    subst hP hw hK
    obtain ⟨hz, hTI, ⟨x0, y0, hTO⟩, h1, h2⟩ := st
    obtain ⟨us, ws, u, w, q1, q2, e1, e2⟩ := hg
    obtain ⟨its, rv, p1, _⟩ := sqB_inv I q1
    obtain ⟨its2, rv2, p2, _⟩ := sqB_inv I q2
    obtain ⟨y1, g1, r1⟩ := rv.get e1
    obtain ⟨y2, g2, r2⟩ := rv2.get e2
    have zl : z < s.heap.objs.size := Heap.lt_size hz
    have hd : X.A.in1.handled = none := I.ok.hd hc
    have l1 : i < its.toArray.size := by
      have := (List.getElem?_eq_some_iff.mp g1).1
      simpa using this
    have l2 : i < its2.toArray.size := by
      have := (List.getElem?_eq_some_iff.mp g2).1
      simpa using this
    refine wpAny_pyNext_zipD2_item S (dwB t1 hd i1 a n1 its.toArray) (dwB t2 hd i2 b n2 its2.toArray) hz hTI hTO ⟨h1, p1⟩ ⟨h2, p2⟩ l1 l2 fun x1 x2 h' tk m1 m2 z' TO' s1 s2 hT hsz hk => ?_
    have ex1 : y1 = x1 := by
      have : its.toArray[i]? = some x1 := m1
      rw [List.getElem?_toArray, g1] at this
      exact Option.some.inj this
    have ex2 : y2 = x2 := by
      have : its2.toArray[i]? = some x2 := m2
      rw [List.getElem?_toArray, g2] at this
      exact Option.some.inj this
    subst ex1 ex2
    refine ⟨_, rfl, wpAny_letOwnedTupleGo_zip (s := { s with heap := h', toks := tk }) z' fun h'' z'' sb => ?_⟩
    have hT2 : h''.get? s.heap.objs.size = some { cls := .type "tuple", data := .seq #[y1, y2] } := (sb.2 _ (Nat.ne_of_gt zl)).trans hT
    have fresh : ObjOk X.prog X.w (upd H s.heap.objs.size (.tup [u, w])) h'' s.heap.objs.size (.tup [u, w]) :=
      ⟨by show 2 ≤ sizeLine; decide, [y1, y2], .cons r1 (.cons r2 .nil), ⟨_, hT2, rfl, _, rfl⟩⟩
    have I1 : Inv X pins σ (upd H s.heap.objs.size (.tup [u, w])) { s with heap := h'', toks := tk } :=
      I.turnedNew (ch := [z, TI, TO, i1, i2]) (fun c o hb q => (sb.2 c (fun e => hb (by simp [e]))).trans (hk c o (fun e => hb (by simp [e])) (fun e => hb (by simp [e])) (fun e => hb (by simp [e])) (fun e => hb (by simp [e])) q)) hf (Nat.le_refl _) fresh
    refine ⟨.ref s.heap.objs.size, _, I1, rfl, ⟨_, u, w, rfl, I.hok.fresh (Nat.le_refl _), rfl, fun vs hv => by rw [sqB_inj I hv q1]; exact e1, fun vs hv => by rw [sqB_inj I hv q2]; exact e2⟩, ⟨z'', (sb.2 _ S.TIz).trans (hk _ _ S.TIz S.TITO S.TIi1 S.TIi2 hTI), ⟨y1, y2, (sb.2 _ S.TOz).trans TO'⟩, itB_at s1.1 fun o q => (sb.2 _ (Ne.symm S.zi1)).trans q, itB_at s2.1 fun o q => (sb.2 _ (Ne.symm S.zi2)).trans q⟩, fun c hcm => ?_⟩
    have lc : c < s.heap.objs.size := by
      rcases five hcm with rfl | rfl | rfl | rfl | rfl
      · exact zl
      · exact Heap.lt_size hTI
      · exact Heap.lt_size hTO
      · obtain ⟨_, e, _⟩ := itB_obj h1; exact Heap.lt_size e
      · obtain ⟨_, e, _⟩ := itB_obj h2; exact Heap.lt_size e
    rw [upd_ne (Nat.ne_of_lt lc)]
    exact (hf c hcm).1
  done := by
    intro X hP hw hK hc i pins s σ H E I hf st hg
    subst hP hw hK
    obtain ⟨hz, hTI, ⟨x0, y0, hTO⟩, h1, h2⟩ := st
    obtain ⟨us, ws, q1, q2, hend⟩ := hg
    obtain ⟨its, rv, p1, _⟩ := sqB_inv I q1
    obtain ⟨its2, rv2, p2, _⟩ := sqB_inv I q2
    have hd : X.A.in1.handled = none := I.ok.hd hc
    have len1 := rv.length
    have len2 := rv2.length
    have fin : ∀ (h' : Heap) (tk : Nat), (∀ c o, c ≠ z → c ≠ TO → c ≠ i1 → c ≠ i2 → s.heap.get? c = some o → h'.get? c = some o) → Inv X pins σ H { s with heap := h', toks := tk } := fun h' tk hk =>
      I.turnedL (ch := [z, TI, TO, i1, i2]) (fun c o hb q => hk c o (fun e => hb (by simp [e])) (fun e => hb (by simp [e])) (fun e => hb (by simp [e])) (fun e => hb (by simp [e])) q) hf
    by_cases c1 : its.toArray.size ≤ i
    · by_cases c2 : its2.toArray.size ≤ i
      · exact wpAny_pyNext_zipD2_end S (dwEnd t1 hd i1 a its.toArray c1) (dwEnd t2 hd i2 b its2.toArray c2) hz hTI hTO ⟨rfl, h1, p1⟩ ⟨rfl, h2, p2⟩ (Nat.le_refl _) (Nat.le_refl _) (.inl rfl) fun h' tk hk => ⟨rfl, fin h' tk hk⟩
      · exact wpAny_pyNext_zipD2_end S (dwEnd t1 hd i1 a its.toArray c1) (dwB t2 hd i2 b n2 its2.toArray) hz hTI hTO ⟨rfl, h1, p1⟩ ⟨h2, p2⟩ (Nat.le_refl _) (by omega) (.inl rfl) fun h' tk hk => ⟨rfl, fin h' tk hk⟩
    · have c2 : its2.toArray.size ≤ i := by
        rw [List.size_toArray] at c1 ⊢
        rcases hend with q | q <;> omega
      exact wpAny_pyNext_zipD2_end S (dwB t1 hd i1 a n1 its.toArray) (dwEnd t2 hd i2 b its2.toArray c2) hz hTI hTO ⟨h1, p1⟩ ⟨rfl, h2, p2⟩ (by omega) (Nat.le_refl _) (.inr rfl) fun h' tk hk => ⟨rfl, fin h' tk hk⟩
  self := fun A i s Q E st h => wpAny_pyIter_zip st.1 h
/-- zip of two lists, two tuples, or one of each -/
def iZipM (K : PySem.W.Frag) (ta : TA) : TI := fun σ H R => ta σ H fun vs H1 => ∃ t1 t2 a b us ws, vs = [.ref a, .ref b] ∧ SqB t1 K H1 a us ∧ SqB t2 K H1 b ws ∧ R (ItzM K t1 t2 a b) H1
theorem pi_zipM {X : L2.Cx} {e e2 : Expr} {ta : TA} {p pos tpos : Pos} {elts : List Expr} {kk : Nat} (hg : Gl X "zip") (hm : X.mg "zip" = none) (ha : PA X [e, e2] ta)
    (hs : starEach [e, e2] X.env = (false, eval e X.env) :: starEach [e2] X.env := by rfl) (hpl : (backTo pos (starEach [e2] X.env)).any (·.1) = false := by rfl) :
    PI X (.Tuple elts kk tpos) (.Call (.Name "zip" p) [e, e2] [] pos) (iZipM X.K ta) := by
  refine ⟨fun pins s σ H R I h => ?_⟩
  refine Call_ (L2.ld_blt I hg hm PyProof.Rows.boot_zip (PyProof.Rows.callWith_type1 (thn (ha.run pos pins s σ H _ I h) fun us s1 ⟨vs, H1, I1, r1, q1⟩ => ?_) hs hpl))
  obtain ⟨t1, t2, a, b, xs, ys, rfl, q1, q2, q⟩ := q1
  obtain ⟨y1, y2, rfl, ry1, ry2⟩ : ∃ y1 y2, us = [y1, y2] ∧ L2.RelV (.ref a) y1 ∧ L2.RelV (.ref b) y2 := by
    cases r1 with
    | cons r rr => cases rr with
      | cons r' rr => cases rr; exact ⟨_, _, rfl, r, r'⟩
  cases ry1
  cases ry2
  obtain ⟨its, rv, p1, la⟩ := sqB_inv I1 q1
  obtain ⟨its2, rv2, p2, lb⟩ := sqB_inv I1 q2
  have all5 : ∀ c, c ∈ [s1.heap.objs.size + 4, s1.heap.objs.size + 2, s1.heap.objs.size + 3, s1.heap.objs.size, s1.heap.objs.size + 1] → L2.FpOk X pins H1 c := fun c hcm => by
    have hle : s1.heap.objs.size ≤ c := by
      rcases five hcm with z | z | z | z | z <;> rw [z] <;> first | exact Nat.le_refl _ | exact Nat.le_add_right _ _
    exact I1.fpOk hle (I1.hok.fresh hle)
  refine zip_begins2 (begB t1 a its.toArray) (begB t2 b its2.toArray) p1 p2 fun h' hz hTI hTO h1 h2 hsz hk => wpAny_pyIter_zip hz ?_
  refine ⟨s1.heap.objs.size + 4, _, _, _, H1, rfl, I1.kept (t' := s1.toks) hk, turn_zipM (t1 := t1) (t2 := t2) (a := a) (b := b) ?_ (Nat.ne_of_lt la) (Nat.ne_of_lt (Nat.lt_succ_of_lt lb)), ⟨hz, hTI, ⟨_, _, hTO⟩, itB_new h1, itB_new h2⟩, all5, q⟩
  have n0 : ∀ (n : Nat) {i j : Nat}, i ≠ j → n + i ≠ n + j := fun n i j h e => h (Nat.add_left_cancel e)
  have n1 : ∀ {n x : Nat} (i : Nat), x < n → n + i ≠ x := fun {n x} i h e => by omega
  have z1 : s1.heap.objs.size + 4 ≠ s1.heap.objs.size := fun h => by omega
  have z2 : s1.heap.objs.size + 3 ≠ s1.heap.objs.size := fun h => by omega
  have z3 : s1.heap.objs.size + 2 ≠ s1.heap.objs.size := fun h => by omega
  have z4 : s1.heap.objs.size + 1 ≠ s1.heap.objs.size := fun h => by omega
  have z5 : s1.heap.objs.size + 4 ≠ s1.heap.objs.size + 1 := fun h => by omega
  have z6 : s1.heap.objs.size + 3 ≠ s1.heap.objs.size + 1 := fun h => by omega
  have z7 : s1.heap.objs.size + 2 ≠ s1.heap.objs.size + 1 := fun h => by omega
  exact ⟨n0 _ (by decide), n0 _ (by decide), n0 _ (by decide), z3, List.mem_cons_self, no2 z1 (n1 4 la), no2 z2 (n1 3 la), z7, List.mem_cons_self, no2 z5 (n1 4 lb), no2 z6 (n1 3 lb), no2 z4.symm (n1 0 lb), no2 z4 (n1 1 la)⟩
variable [KF]
section
variable {Hs H : Hp} {K : PySem.W.Frag}
theorem SqB.of {t : Bool} {H : Hp} {a : Addr} {us : List V} (h : H a = some (if t = true then .tup us else .lst us)) : SqB t K H a us := by
  cases t
  · exact SqL.of h
  · exact SqT.of h
theorem wlk_zipM {t1 t2 : Bool} {a b : Addr} {us ws : List V} {xs ys : List D} {vs : List V} (h : ShA Hs xs us) (h2 : ShA Hs ys ws) (ha : H a = some (if t1 = true then .tup us else .lst us)) (hb : H b = some (if t2 = true then .tup ws else .lst ws)) (hv : V.ref a ∈ vs) (hv2 : V.ref b ∈ vs) :
    Wlk Hs (ItzM K t1 t2 a b) (zipD xs ys) (Held vs H) := by
  have l1 := h.len
  have l2 := h2.len
  refine ⟨fun i H' hi g => ?_, fun H' g => ?_, fun i H' v H2 Hs' x e g sb sub y => ?_⟩
  · rw [zipD_len] at hi
    obtain ⟨w, e, _⟩ := h.get (List.getElem?_eq_getElem (show i < xs.length by omega))
    obtain ⟨w2, e2, _⟩ := h2.get (List.getElem?_eq_getElem (show i < ys.length by omega))
    exact ⟨us, ws, w, w2, SqB.of (g a _ hv ha), SqB.of (g b _ hv2 hb), e, e2⟩
  · exact ⟨us, ws, SqB.of (g a _ hv ha), SqB.of (g b _ hv2 hb), by rw [zipD_len]; omega⟩
  · obtain ⟨T, w, w2, rfl, hT, rfl, y1, y2⟩ := y
    obtain ⟨dx, dy, e1, e2, rfl⟩ := zipD_at _ _ _ _ e
    exact ⟨_, pair_sh hT sub (Sh.mono sb (h.at e1 (y1 us (SqB.of (g a _ hv ha))))) (Sh.mono sb (h2.at e2 (y2 ws (SqB.of (g b _ hv2 hb))))), .inr ⟨T, _, hT, rfl, rfl⟩⟩
end
end Itp

/-! Rng: range of any two ints. -/
namespace Itp
open PySem PySem.Spec PyProof.Rows
open L2 (V Hp HO upd upd_same upd_ne Inv SqL SqT It TI TA PI PIE PA thn Turn Ite Itr Gl ObjOk Cx ld_blt go_of)
theorem turn_long {P : Program} {w : World} {K : PySem.W.Frag} {tg : Expr} (it : Addr) (lo : Int) (n : Nat) : Turn P w K tg (Itr lo n) [it] it (fun i h => IsLongIter h it (lo + (i : Nat) * 1) ((n : Int) - (i : Nat)) 1) where
  mem := by simp
  obj := fun i h st b hb => by
    have e : b = it := by simpa using hb
    subst e
    exact ⟨_, st, fun v z => by
      have z' : Data.fields _ = Data.cell v := z
      cases z'⟩
  keep := fun i h h' st k => k it (by simp) _ st
  item := by
    intro X hP hw hK hc i pins s σ H E I hf st hg
    subst hP hw hK
    obtain ⟨f0, f1, f2, f3, f4, f5⟩ := hf it (by simp)
    have W := Walks.longrange (prog := X.prog) (w := X.w) (I.ok.hd hc) it lo 1 n
    refine W.item i s _ _ hg st fun v h' tk hv st' kk => ?_
    obtain ⟨t, rfl⟩ := hv
    have I1 : Inv X pins σ H { s with heap := h', toks := tk } := I.turned (fun b o hb e => kk b o (by simpa using hb) e) f0 f1 f3 f4 f5
    refine ⟨_, rfl, go_of (s := { s with heap := h', toks := tk }) (n := "longrange_iterator") st' rfl rfl (by decide) ⟨.int (lo + i), H, I1, ⟨t, ?_⟩, ⟨rfl, rfl⟩, st', fun b hb => (hf b hb).1⟩⟩
    rw [Int.mul_one]
  done := by
    intro X hP hw hK hc i pins s σ H E I hf st hg
    subst hP hw hK
    obtain ⟨f0, f1, f2, f3, f4, f5⟩ := hf it (by simp)
    exact wpAny_pyNext_long_end (I.ok.hd hc) st (by have : n ≤ i := hg; omega) fun h' eb => ⟨rfl, I.turned (t' := s.toks) (fun b o hb e => eb b o hb e) f0 f1 f3 f4 f5⟩
  self := fun _ _ _ _ _ st h => wpAny_pyIter_longiter st h
section
variable {X : Cx} {tg : Expr}
theorem range_any {pins : List (Addr × Obj)} {σ : L2.St} {H : Hp} {s : Shared} {R : It → Hp → Prop} {E : Value → Shared → Prop} {lo hi : Int} {t u v : Tok} {tk : Nat} (I : Inv X pins σ H s)
    (q : R (Itr lo (hi - lo).toNat) H) : wpAny (model X.prog X.w) X.A (pyIter (.ref s.heap.objs.size)) (PIE X pins σ tg R) E { s with heap := s.heap.push { cls := .type "range", data := .fields #[.int lo t, .int hi u, .int 1 v] }, toks := tk } := by
  have I1 : Inv X pins σ H { s with heap := s.heap.push { cls := .type "range", data := .fields #[.int lo t, .int hi u, .int 1 v] }, toks := tk } := I.kept fun b o e => Heap.get?_push_of_some _ e
  have e1 : lo + ((0 : Nat) : Int) * 1 = lo := by simp
  have e2 : (((hi - lo).toNat : Nat) : Int) - ((0 : Nat) : Int) = Builtin.Range.rangeSize lo hi 1 := by rw [rangeSize_one]; split <;> omega
  cases hs : Builtin.Range.small lo hi 1 with
  | true =>
    refine wpAny_pyIter_range (IsRange.new ..) hs ?_
    refine ⟨(s.heap.push { cls := .type "range", data := .fields #[.int lo t, .int hi u, .int 1 v] }).objs.size, [(s.heap.push { cls := .type "range", data := .fields #[.int lo t, .int hi u, .int 1 v] }).objs.size], _, _, H, rfl,
      I1.kept (t' := tk) fun b o e => Heap.get?_push_of_some _ e, L2.turn_range _ lo (hi - lo).toNat, ?_, fun b hb => ?_, q⟩
    · show IsRangeIter _ _ (lo + ((0 : Nat) : Int) * 1) ((((hi - lo).toNat : Nat) : Int) - ((0 : Nat) : Int)) 1
      rw [e1, e2]
      exact Heap.get?_push_size _ rfl
    · have e : b = (s.heap.push { cls := .type "range", data := .fields #[.int lo t, .int hi u, .int 1 v] }).objs.size := by simpa using hb
      subst e
      exact I1.fpOk (Nat.le_refl _) (I1.hok.fresh (Nat.le_refl _))
  | false =>
    refine wpAny_pyIter_longrange (IsRange.new ..) hs ?_
    refine ⟨(s.heap.push { cls := .type "range", data := .fields #[.int lo t, .int hi u, .int 1 v] }).objs.size, [(s.heap.push { cls := .type "range", data := .fields #[.int lo t, .int hi u, .int 1 v] }).objs.size], _, _, H, rfl,
      I1.kept (t' := tk) fun b o e => Heap.get?_push_of_some _ e, turn_long _ lo (hi - lo).toNat, ?_, fun b hb => ?_, q⟩
    · show IsLongIter _ _ (lo + ((0 : Nat) : Int) * 1) ((((hi - lo).toNat : Nat) : Int) - ((0 : Nat) : Int)) 1
      rw [e1, e2]
      exact Heap.get?_push_size _ rfl
    · have e : b = (s.heap.push { cls := .type "range", data := .fields #[.int lo t, .int hi u, .int 1 v] }).objs.size := by simpa using hb
      subst e
      exact I1.fpOk (Nat.le_refl _) (I1.hok.fresh (Nat.le_refl _))
def iRngA (ta : TA) : TI := fun σ H R => ta σ H fun vs H1 => ∃ i j : Int, vs = [.int i, .int j] ∧ R (Itr i (j - i).toNat) H1
theorem pi_rangeA {a b : Expr} {ta : TA} {p pos : Pos} (hg : Gl X "range") (hm : X.mg "range" = none) (ha : PA X [a, b] ta) (hs : starEach [a, b] X.env = [(false, eval a X.env), (false, eval b X.env)] := by rfl) (hs2 : starEach [b] X.env = [(false, eval b X.env)] := by rfl) :
    PI X tg (.Call (.Name "range" p) [a, b] [] pos) (iRngA ta) := by
  refine ⟨fun pins s σ H R I h => ?_⟩
  refine Call_ (ld_blt I hg hm boot_range (PyProof.Rows.callWith_type1 (thn (ha.run pos pins s σ H _ I h) fun us s1 ⟨vs, H1, I1, r1, q1⟩ => ?_) (by rw [hs, hs2]) (by rw [hs2]; rfl)))
  obtain ⟨i, j, e, q⟩ := q1
  subst e
  cases r1 with
  | cons r rr =>
    cases rr with
    | cons r' rr =>
      cases rr
      obtain ⟨t, rfl⟩ := r
      obtain ⟨t', rfl⟩ := r'
      exact call_range_2 (range_any I1 q)
end
/-! ### list(range(..)), of any two ints -/
section
variable {prog : Program} {w : World} {A : Around} {E : Value → Shared → Prop} {s : Shared}
abbrev longObj (a c : Int) (n : Int) : Obj := { cls := .type "longrange_iterator", data := .fields #[rawInt a, rawInt n, rawInt c] }
/-- a list's filling from a range of long ints -/
theorem fill_long {R : Result → Shared → Prop} {r : Addr} {a b c : Int} {t u v : Tok} {n : Nat} (hh : A.handled = none) (hr : IsRange s.heap r a b c t u v) (hbig : Builtin.Range.small a b c = false)
    (hn : Builtin.Range.rangeSize a b c = n) (hlen : n ≤ 2 ^ 24) (S : Addr) (res : Value) (c₀ : Nat) (hS : s.heap.get? S = some { cls := .type "list", data := .seq #[] c₀ })
    (hR : ∀ h' tk acc c', (∀ b o, b ≠ S → s.heap.get? b = some o → h'.get? b = some o) → h'.get? S = some { cls := .type "list", dict := none, data := .seq acc c', slots := #[] } →
      ItemsOf (fun i v => ∃ t, v = .int (a + i * c) t) acc n → R (.ok (.ret res)) { s with heap := h', toks := tk }) :
    wpAny (model prog w) A.in1 (Builtin.List.listExtendWith (.ref S) (.ref r) res)
      (fun fin s' => match fin with | .done f => R (.ok f) s' | .again c' => c'.quiet = true ∧ codeAny (model prog w) A c' R s') (fun e s' => R (.error e) s') s := by
  have nr : S ≠ r := fun e => by rw [e, hr] at hS; simp at hS
  have nI : S ≠ s.heap.objs.size := Nat.ne_of_lt (Heap.lt_size hS)
  have W := (Walks.longrange (prog := prog) (w := w) (A := A.in1) hh s.heap.objs.size a c n).toS
  have turnOn : ∀ (h : Heap) (c₁ tk : Nat), IsLongIter h s.heap.objs.size (a + ((0 : Nat) : Int) * c) ((n : Int) - ((0 : Nat) : Int)) c → (∀ b o, b ≠ S → s.heap.get? b = some o → h.get? b = some o) →
      h.get? S = some { cls := .type "list", data := .seq #[] c₁ } → codeAny (model prog w) A (.builtin "list.extend.loop" ⟨[.ref S, .ref s.heap.objs.size, res], []⟩) R { s with heap := h, toks := tk } := by
    intro h c₁ tk hit keep hS1
    refine codeAny_extend_loopS W (by rw [sizeLine_eq]; omega) S (fun z => nI (List.mem_singleton.mp z)) res n 0 _ #[] c₁ rfl (Nat.zero_le _) hit hS1 (ItemsOf.nil _) fun s' acc c' moved hS' its => ?_
    rw [Moved.eq_with moved]
    refine hR s'.heap s'.toks acc c' (fun b o hb e => moved.heap b o (fun m => ?_) (keep b o hb e)) hS' its
    rcases List.mem_cons.mp m with z | m
    · exact hb z
    · exact absurd (Heap.lt_size e) (by rw [List.mem_singleton.mp m]; exact Nat.lt_irrefl _)
  unfold Builtin.List.listExtendWith
  refine wpAny_bind (wpAny_typeOf (T := "range") ⟨_, hr, rfl⟩ ?_)
  have q1 : Builtin.List.listSameRef (.ref S) (.ref r) = false := by simp [Builtin.List.listSameRef, nr]
  have q2 : (Value.type "range" == Value.type "list") = false := by decide
  have q3 : (Value.type "range" == Value.type "tuple") = false := by decide
  simp only [q1, q2, q3, Bool.or_false, Bool.false_eq_true, if_false]
  refine wpAny_bind (wpAny_pyIter_longrange hr hbig ?_)
  refine wpAny_bind (wpAny_holding (wpAny_hint_range (n := n) (Heap.get?_push_of_some _ hr) hn hlen ?_))
  have it1 : IsLongIter (s.heap.push (longObj a c (Builtin.Range.rangeSize a b c))) s.heap.objs.size (a + ((0 : Nat) : Int) * c) ((n : Int) - ((0 : Nat) : Int)) c := by
    show IsLongIter _ _ _ _ _; rw [hn]; simpa using Heap.get?_push_size _ rfl
  have S1 := Heap.get?_push_of_some (longObj a c (Builtin.Range.rangeSize a b c)) hS
  refine wpAny_ite_split (fun _ => ?_) (fun _ => wpAny_pure ⟨plainId_quiet F.plain_extend_loop _, turnOn _ c₀ _ it1 (fun b o _ e => Heap.get?_push_of_some _ e) S1⟩)
  refine wpAny_bind (wpAny_rule ?_)
  refine wpAny_bind ?_
  show wpAny _ _ (updateSeq S (·.push .none) >>= fun _ => updateSeq S (·.pop)) _ _ _
  refine wpAny_bind (wpAny_updateSeq S1 rfl ?_)
  have S2 := Heap.get?_update_self (Obj.mapSeq (·.push Value.none)) S1 rfl
  refine wpAny_updateSeq (hz := by seq_fits) S2 rfl ?_
  have S3 := Heap.get?_update_self (Obj.mapSeq (·.pop)) S2 rfl
  refine wpAny_pure ⟨plainId_quiet F.plain_extend_loop _, turnOn _ _ _ ?_ (fun b o hb e => ?_) S3⟩
  · exact (Heap.get?_update_other _ _ nI).trans ((Heap.get?_update_other _ _ nI).trans it1)
  · exact (Heap.get?_update_other _ _ (Ne.symm hb)).trans ((Heap.get?_update_other _ _ (Ne.symm hb)).trans (Heap.get?_push_of_some _ e))
theorem list_long {Q : Value → Shared → Prop} {r : Addr} {a b c : Int} {t u v : Tok} {n : Nat} (hh : A.handled = none) (hr : IsRange s.heap r a b c t u v) (hbig : Builtin.Range.small a b c = false)
    (hn : Builtin.Range.rangeSize a b c = n) (hlen : n ≤ 2 ^ 24)
    (hQ : ∀ h' tk acc c', (∀ b o, s.heap.get? b = some o → h'.get? b = some o) →
      h'.get? s.heap.objs.size = some { cls := .type "list", dict := none, data := .seq acc c', slots := #[] } → ItemsOf (fun i v => ∃ t, v = .int (a + i * c) t) acc n → Q (.ref s.heap.objs.size) { s with heap := h', toks := tk }) :
    wpAny (model prog w) A (PySem.call (.type "list") [.ref r]) Q E s := by
  refine callType_codes (Q₁ := fun obj s₁ => obj = .ref s.heap.objs.size ∧ s₁ = { s with heap := s.heap.push { cls := .type "list", data := .seq #[] } }) F.called_list (F.typeCall_list_1 _) F.entry_list_init
    (code_list_new _ ⟨rfl, rfl⟩) fun obj s₁ h₁ => ?_
  obtain ⟨rfl, rfl⟩ := h₁
  have S0 : (s.heap.push { cls := .type "list", data := .seq #[] }).get? s.heap.objs.size = some { cls := .type "list", data := .seq #[] } := Heap.get?_push_size _ rfl
  have r0 : IsRange (s.heap.push { cls := .type "list", data := .seq #[] }) r a b c t u v := Heap.get?_push_of_some _ hr
  have nr : s.heap.objs.size ≠ r := fun e => by rw [e] at S0; have := S0.symm.trans r0; simp at this
  refine ⟨⟨_, S0, rfl⟩, F.args_list_init_2 _ _, ?_⟩
  show wpAny _ _ (do let old ← Builtin.List.listItems (.ref s.heap.objs.size); Builtin.List.listUpdate (.ref s.heap.objs.size) (fun _ => #[]); letGo old.toList.reverse; Builtin.List.listExtendWith (.ref s.heap.objs.size) (.ref r) .none) _ _ _
  refine wpAny_bind ?_
  unfold Builtin.List.listItems
  refine wpAny_bind (wpAny_seqItems S0 rfl (wpAny_pure ?_))
  show wpAny _ _ (updateSeq s.heap.objs.size (fun _ => #[]) >>= fun _ => letGo (#[] : Array Value).toList.reverse >>= fun _ => Builtin.List.listExtendWith (.ref s.heap.objs.size) (.ref r) .none) _ _ _
  refine wpAny_bind (wpAny_updateSeq S0 rfl ?_)
  have S1 := Heap.get?_update_self (Obj.mapSeq (fun _ => (#[] : Array Value))) S0 rfl
  have oth : ∀ b o, b ≠ s.heap.objs.size → (s.heap.push { cls := .type "list", data := .seq #[] }).get? b = some o → ((s.heap.push { cls := .type "list", data := .seq #[] }).update s.heap.objs.size (Obj.mapSeq (fun _ => (#[] : Array Value)))).get? b = some o :=
    fun b o hb e => (Heap.get?_update_other _ _ (Ne.symm hb)).trans e
  refine wpAny_bind (wpAny_letGo ?_)
  refine fill_long (A := A.in1) hh (oth r _ (Ne.symm nr) r0) hbig hn hlen _ .none _ S1 fun h' tk acc c' hk hS' its => ?_
  exact ⟨rfl, hQ h' tk acc c' (fun b o e => hk b o (Nat.ne_of_lt (Heap.lt_size e)) (oth b o (Nat.ne_of_lt (Heap.lt_size e)) (Heap.get?_push_of_some _ e))) hS' its⟩
end
section
variable {X : Cx} {e : Expr} {te : L2.St → Hp → (Int → Int → Hp → Prop) → Prop}
/-- list(range(..)) -/
theorem pe_listRgA {p pos : Pos} (hc : X.calm = true) (hg : Gl X "list") (hm : X.mg "list" = none) (he : L2.PRg X e te) (na : starEach [e] X.env = (false, eval e X.env) :: starEach [] X.env := by rfl) :
    L2.PE X (.Call (.Name "list" p) [e] [] pos) (fun σ H Q => te σ H fun a b H1 => (b - a).toNat ≤ 2 ^ 24 ∧ ∀ q, H1 q = none → Q (.ref q) (upd H1 q (.lst (L2.rgV a b)))) := by
  refine ⟨fun pins s σ H Q I h => ?_⟩
  refine Call_ (ld_blt I hg hm boot_list (PyProof.Rows.callWith_type1 (args_cons (thn (he pins s σ H _ I h) fun x s1 ⟨r, a, b, t, u, v, H1, ex, hr, I1, ok, q⟩ => args_nil ?_) na) na))
  subst ex
  have fin : ∀ h' tk acc c', (∀ b o, s1.heap.get? b = some o → h'.get? b = some o) →
      h'.get? s1.heap.objs.size = some { cls := .type "list", dict := none, data := .seq acc c', slots := #[] } → ItemsOf (fun i v => ∃ t, v = .int (a + i * 1) t) acc (b - a).toNat → L2.EP X pins σ Q (.ref s1.heap.objs.size) { s1 with heap := h', toks := tk } := fun h' tk acc c' hk e' hi => by
    refine ⟨.ref s1.heap.objs.size, upd H1 s1.heap.objs.size (.lst (L2.rgV a b)), I1.laid hk (Nat.le_refl _) (show ObjOk X.prog X.w _ _ _ (.lst (L2.rgV a b)) from ⟨?_, acc.toList, c', L2.vals_rg hi, ?_⟩), rfl, q _ (I1.hok.fresh (Nat.le_refl _))⟩
    · rw [L2.rgV_length, sizeLine_eq]; omega
    · rw [Array.toArray_toList]; exact e'
  cases hs : Builtin.Range.small a b 1 with
  | true => exact call_list_range (n := (b - a).toNat) (I1.ok.hd hc) hr hs (rangeSize_nat a b) ok fin
  | false => exact list_long (n := (b - a).toNat) (I1.ok.hd hc) hr hs (rangeSize_nat a b) ok fin
end
end Itp

/-! Cmp: from the given form to the core. -/
namespace Itp
open PySem
/-- what the text's top gives: its defs' names, its constants -/
structure Gs where
  fns : List Str
  csts : List (Str × D)
  /-- names whose lists are shared as soon as they are stored -/
  fz : List (List Str × List Str)
  /-- names whose lists are lent to calls (all others are shared) -/
  lt : List (List Str × List Str)
  /-- defs that change a list handed over as it is made -/
  tl : List Str
  /-- what may be raised leaves here -/
  rz : Bool
  /-- defs that may raise, by the names of their raising cores -/
  rs : List (Str × Str)
  /-- the own exception classes that the top has -/
  xcs : List Nat
  /-- those that are raised -/
  xrs : List Nat
  /-- places of the text that are read in a way of their own -/
  wr : List (Pos × Nat)
  /-- defs to which a region is lent, by the names of these cores; those that may raise too -/
  hs : List (Str × Str)
  hxs : List (Str × Str)
/-- the way of one place forgotten -/
def Gs.unw (gs : Gs) (p : Pos) : Gs := { gs with wr := gs.wr.filter fun y => !decide (y.1 = p) }
def Gs.way (gs : Gs) (p : Pos) : Nat := (gs.wr.lookup p).getD 0
def Gs.to (gs : Gs) (r : Bool) : Gs := { gs with rz := r }
def ixOf : List Str → Str → Option Nat
  | [], _ => none
  | y :: ys, x => if y = x then some 0 else (ixOf ys x).map (· + 1)
theorem ixOf_at : ∀ {N : List Str} {x : Str} {i : Nat}, ixOf N x = some i → N[i]? = some x
  | [], _, _, h => by simp [ixOf] at h
  | y :: ys, x, i, h => by
    unfold ixOf at h
    split at h
    · rename_i e
      cases h
      simp [e]
    · simp only [Option.map_eq_some_iff] at h
      obtain ⟨j, h1, rfl⟩ := h
      simpa using ixOf_at h1
/-- the slot of the region -/
def regIx (N : List Str) : Option Nat := match ixOf N ("@" : Str) with
  | some h => some h
  | none => ixOf N ("#" : Str)
def nameOk (x : Str) : Bool := !(x == ("__debug__" : Str)) && !(x == ("__classdict__" : Str)) && !(x == ("__name__" : Str))
def mutOf (x : Str) : Option MU :=
  if x = ("append" : Str) then some .append else if x = ("pop" : Str) then some .pop else if x = ("reverse" : Str) then some .reverse else if x = ("clear" : Str) then some .clear
  else if x = ("extend" : Str) then some .extend else if x = ("insert" : Str) then some .insert else none
/-- methods that change nothing, of texts and lists -/
def mpOf (x : Str) : Option MP :=
  if x = ("index" : Str) then some .index else if x = ("count" : Str) then some .count else none
def bltOf (x : Str) : Option B :=
  if x = ("len" : Str) then some .len else if x = ("abs" : Str) then some .abs else if x = ("max" : Str) then some .max else if x = ("min" : Str) then some .min
  else if x = ("sum" : Str) then some .sum else if x = ("all" : Str) then some .all else if x = ("any" : Str) then some .any else if x = ("int" : Str) then some .int
  else if x = ("str" : Str) then some .str else if x = ("list" : Str) then some .list else if x = ("tuple" : Str) then some .tuple else if x = ("repr" : Str) then some .repr else none
/-- the built-in names that the text may not have stored -/
def bltNames : List Str := ["len", "abs", "max", "min", "sum", "all", "any", "int", "bool", "str", "list", "tuple", "dict", "sorted", "isinstance", "range", "enumerate", "zip", "reversed", "repr"]
def tyOf (x : Str) : Option String :=
  if x = ("int" : Str) then some "int" else if x = ("bool" : Str) then some "bool" else if x = ("str" : Str) then some "str" else if x = ("list" : Str) then some "list"
  else if x = ("tuple" : Str) then some "tuple" else if x = ("dict" : Str) then some "dict" else none
def isCall : Expr → Bool
  | .Call _ _ _ _ => true
  | _ => false
def compAll (f : Expr → Option E) : List Expr → Option E
  | [] => some .nil
  | e :: es => match f e, compAll f es with
    | some a, some b => some (.cons a b)
    | _, _ => none
def scalX : Expr → Bool
  | .Constant _ _ _ => true
  | .BinOp _ .Add _ _ => false
  | .BinOp _ _ _ _ => true
  | .Compare _ _ _ _ => true
  | _ => false
/-- an argument of a def of the text: lent, or shared ahead of the call -/
def argX (lt : List Str) (tl : Bool) (f : Expr → Option E) (e : Expr) : Option E := match e with
  | .Name x _ => if lt.contains x then f e else (f e).map .fz
  | _ => if scalX e || tl then f e else (f e).map .fz
def compOpt (f : Expr → Option E) : Option Expr → Option E
  | none => some .nop
  | some e => match f e with
    | some .nop => none
    | r => r
def isLoc (sc : Scope) (x : Str) : Bool := match sc.names.lookup x with
  | some .local => true
  | some .cell => true
  | _ => false
def compTg (N : List Str) (sc : Scope) : Nat → Expr → Option Tg
  | 0, _ => none
  | n + 1, e => match e with
    | .Name x _ => if isLoc sc x then (ixOf N x).map .nm else none
    | .Tuple es _ _ => (compTgs (compTg N sc n) es).map .tp
    | _ => none
where compTgs (f : Expr → Option Tg) : List Expr → Option Tg
  | [] => some .nil
  | e :: es => match e with
    | .Starred _ _ => none
    | _ => match f e, compTgs f es with
      | some a, some b => some (.cons a b)
      | _, _ => none
def isGl (sc : Scope) (x : Str) : Bool := match sc.names.lookup x with
  | some .globalImplicit => true
  | _ => false
/-- list(range(..)): what the range is of -/
def lstRg (sc : Scope) (fns : List Str) (f : Str) : List Expr → Option (List Expr)
  | [.Call (.Name r _) rs [] _] => if f = ("list" : Str) ∧ r = ("range" : Str) ∧ isGl sc r = true ∧ fns.contains r = false ∧ (rs.length = 1 ∨ rs.length = 2) then some rs else none
  | _ => none
def isTup : Expr → Bool
  | .Tuple _ _ _ => true
  | _ => false
/-- an iterable; tp: its items go to a written tuple -/
def compI (f : Expr → Option E) (sc : Scope) (gs : Gs) (tp : Bool) (it : Expr) : Option (Src × E) :=
  match it with
  | .Call (.Name g _) es [] _ =>
    if !nameOk g || !isGl sc g || gs.fns.contains g then (f it).map fun a => (.plain, .cons a .nil)
    else if g = ("range" : Str) then match es with
      | [_] => (compAll f es).map fun a => (.range, a)
      | [_, _] => (compAll f es).map fun a => (.range, a)
      | [_, _, _] => (compAll f es).map fun a => (.range, a)
      | _ => none
    else if g = ("reversed" : Str) then match es with
      | [_] => (compAll f es).map fun a => (.rev, a)
      | _ => none
    else if g = ("enumerate" : Str) then match es, tp with
      | [_], true => (compAll f es).map fun a => (.enum, a)
      | _, _ => none
    else if g = ("zip" : Str) then match es, tp with
      | [_, _], true => (compAll f es).map fun a => (.zip, a)
      | _, _ => none
    else (f it).map fun a => (.plain, .cons a .nil)
  | _ => (f it).map fun a => (.plain, .cons a .nil)
/-- the slots of a target -/
def slots : Tg → List Nat
  | .nm i => [i]
  | .tp t => slots t
  | .nil => []
  | .cons a b => slots a ++ slots b
/-- a block's own names, with their slots -/
def ownOf (N : List Str) (scope : Scope) : List (Str × Nat) := scope.names.filterMap fun y => match y.2 with
  | .local => (ixOf N y.1).map fun i => (y.1, i)
  | .cell => (ixOf N y.1).map fun i => (y.1, i)
  | _ => none
def isPlainVal : Expr → Bool
  | .ListComp _ _ _ _ => false
  | .SetComp _ _ _ _ => false
  | .DictComp _ _ _ _ _ => false
  | .Tuple _ _ _ => false
  | _ => true
/-- what may be read as a cell -/
def plX : Expr → Bool
  | .Name _ _ => true
  | .Subscript _ _ _ => true
  | .Call _ _ _ _ => true
  | .Attribute _ _ _ => true
  | _ => false
/-- an expression that is read in a way of its own -/
def compW (N : List Str) (gs : Gs) (sc : Scope) (k : Nat) (f : Expr → Option E) (ex : Expr) : Option E := match regIx N with
  | none => none
  | some h =>
    if k = 1 then (if plX ex then (f ex).map (.at_ h) else none)
    else if k = 2 then (if isPlainVal ex then (f ex).map (.cel h) else none)
    else if k = 3 then match ex with
      | .Call (.Name g _) es [] _ => if !nameOk g || !isGl sc g then none else if gs.rz && (gs.hxs.lookup g).isSome then match gs.hxs.lookup g with
          | some g' => (compAll (argX ((gs.lt.lookup N).getD []) (gs.tl.contains g) f) es).map (.clh true h g')
          | none => none
        else match gs.hs.lookup g with
          | some g' => (compAll (argX ((gs.lt.lookup N).getD []) (gs.tl.contains g) f) es).map (.clh false h g')
          | none => none
      | _ => none
    else if k = 5 then match ex with
      | .Compare a [op] [b] _ => match f a, f b with
        | some x, some y => some (.cmd h op x y)
        | _, _ => none
      | _ => none
    else if k = 6 then match ex with
      | .Call (.Attribute o m apos) es [] cpos => if !(apos.endLine == cpos.line) || isCall o then none else match f o, mutOf m, compAll f es with
        | some x, some mu, some a => if es.length ≤ 2 then some (.chc h mu x a) else none
        | _, _, _ => none
      | _ => none
    else if k = 7 then match ex with
      | .Dict [] [] _ => some (.dnw h false)
      | .Dict [some a] [b] _ => match f a, f b with
        | some x, some y => some (.dn1 h false x y)
        | _, _ => none
      | _ => none
    else if k = 8 then match ex with
      | .Dict [] [] _ => some (.dnw h true)
      | .Dict [some a] [b] _ => match f a, f b with
        | some x, some y => some (.dn1 h true x y)
        | _, _ => none
      | _ => none
    else none
def compE (N : List Str) : Gs → Nat → Scope → Expr → Option E
  | _, 0, _, _ => none
  | gs, n + 1, sc, ex => if gs.way ex.pos = 0 ∨ 20 ≤ gs.way ex.pos ∨ (regIx N).isNone = true then match ex with
    | .Name x _ => if nameOk x then match sc.names.lookup x with
        | some .local => (ixOf N x).map .var
        | some .cell => (ixOf N x).map .var
        | some .free => (ixOf N x).map .var
        | some .globalImplicit => (gs.csts.lookup x).map .cst
        | _ => none
      else none
    | .Constant c _ _ => match c with
      | .none => some (.cst .non)
      | .bool b => some (.cst (.bl b))
      | .int i => some (.cst (.int i))
      | .str s => some (.cst (.str s))
      | _ => none
    | .BinOp a op b _ => match compE N gs n sc a, compE N gs n sc b with
      | some x, some y => some (.bin op x y)
      | _, _ => none
    | .UnaryOp .USub a _ => (compE N gs n sc a).map .neg
    | .UnaryOp .Not a _ => (compE N gs n sc a).map .not_
    | .Compare a [op] [b] _ => match compE N gs n sc a, compE N gs n sc b with
      | some x, some y => some (.cmp op x y)
      | _, _ => none
    | .Compare a [o1, o2] [b, c] _ => match compE N gs n sc a, compE N gs n sc b, compE N gs n sc c with
      | some x, some y, some z => some (.chn o1 o2 x y z)
      | _, _, _ => none
    | .BoolOp _ [a] _ => compE N gs n sc a
    | .BoolOp .And (a :: b :: r) p => match compE N gs n sc a, compE N gs n sc (.BoolOp .And (b :: r) p) with
      | some x, some y => some (.and_ x y)
      | _, _ => none
    | .BoolOp .Or (a :: b :: r) p => match compE N gs n sc a, compE N gs n sc (.BoolOp .Or (b :: r) p) with
      | some x, some y => some (.or_ x y)
      | _, _ => none
    | .IfExp c a b _ => match compE N gs n sc c, compE N gs n sc a, compE N gs n sc b with
      | some x, some y, some z => some (.ite x y z)
      | _, _, _ => none
    | .Tuple es _ _ => (compAll (compE N gs n sc) es).map .tup
    | .List es _ => (compAll (compE N gs n sc) es).map .lst
    | .Subscript a b _ => match b with
      | .Slice lo hi st _ => match st with
        | none => match compE N gs n sc a, compOpt (compE N gs n sc) lo, compOpt (compE N gs n sc) hi with
          | some x, some y, some z => some (.slc x y z)
          | _, _, _ => none
        | some (.UnaryOp .USub (.Constant (.int 1) _ _) _) => match lo, hi with
          | none, none => (compE N gs n sc a).map .rv
          | _, _ => none
        | _ => none
      | _ => match compE N gs n sc a, compE N gs n sc b with
        | some x, some y => some (.idx x y)
        | _, _ => none
    | .Call (.Name f _) es [] _ => if !nameOk f || !isGl sc f then none
      else if gs.fns.contains f then (compAll (argX ((gs.lt.lookup N).getD []) (gs.tl.contains f) (compE N gs n sc)) es).map fun a => if gs.rz then match gs.rs.lookup f with
          | some g => .clx g a
          | none => .call f a
        else .call f a
      else match bltOf f with
        | some b => match lstRg sc gs.fns f es with
          | some rs => (compAll (compE N gs n sc) rs).map fun a => .blt .lrg a
          | none => match es with
            | [] => none
            | _ => (compAll (compE N gs n sc) es).map fun a => .blt b a
        | none =>
          if f = ("sorted" : Str) then match es with
            | [e] => (compE N gs n sc e).map .srt
            | _ => none
          else if f = ("isinstance" : Str) then match es with
            | [e, .Name t _] => if !nameOk t || !isGl sc t then none else match compE N gs n sc e, tyOf t with
              | some a, some ty => some (.isi a ty)
              | _, _ => none
            | _ => none
          else none
    | .Call (.Name f _) [e] [⟨some kn, .Constant (.bool true) _ _, _⟩] _ => if !isGl sc f || gs.fns.contains f then none
      else if f = ("sorted" : Str) then if kn = ("reverse" : Str) then (compE N gs n sc e).map .srr else none else none
    | .Call (.Name f _) [e] [⟨some kn, .Constant .none _ _, _⟩] _ => if !isGl sc f || gs.fns.contains f then none
      else if kn = ("default" : Str) then if f = ("max" : Str) then (compE N gs n sc e).map fun a => .blt .maxd (.cons a .nil) else if f = ("min" : Str) then (compE N gs n sc e).map fun a => .blt .mind (.cons a .nil) else none else none
    | .Call (.Attribute o m apos) es [] cpos => if !(apos.endLine == cpos.line) then none
      else match mpOf m with
      | some mp => match es with
        | [e] => if isCall o then none else match compE N gs n sc o, compE N gs n sc e with
          | some x, some y => some (.mth mp x (.cons y .nil))
          | _, _ => none
        | _ => none
      | none => match o, mutOf m with
        | .Name x _, some mu => if !nameOk x then none else if (isLoc sc x || sc.names.lookup x == some .free) && decide (es.length ≤ 2) then match ixOf N x, compAll (compE N gs n sc) es with
          | some i, some a => some (.chg mu i a)
          | _, _ => none
          else none
        | .Constant (.str s) _ _, none => if m = ("join" : Str) then match es with
            | [e] => (compE N gs n sc e).map fun a => .mth .join (.cst (.str s)) (.cons a .nil)
            | _ => none
          else none
        | _, _ => none
    | .ListComp elt [⟨tg, it, ifs, 0⟩] scope _ =>
      if L2.blkC N sc scope (ownOf N scope) then
        match compI (compE N gs n sc) sc gs (isTup tg) it, compTg N scope 8 tg, compE N (gs.to false) n (L2.relS scope sc) elt with
        | some (k, as), some t, some e => if !(slots t).all (fun i => ((ownOf N scope).map (·.2)).contains i) then none else match ifs with
          | [] => some (.comp ((ownOf N scope).map (·.2)) t k as .nop e)
          | [c] => (compE N (gs.to false) n (L2.relS scope sc) c).map fun cc => .comp ((ownOf N scope).map (·.2)) t k as cc e
          | _ => none
        | _, _, _ => none
      else none
    | _ => none
    else compW N (gs.unw ex.pos) sc (gs.way ex.pos) (compE N (gs.unw ex.pos) n sc) ex
def notSwap (x : Str) (px : Pos) (e : Expr) (sc : Scope) : Bool := match e with
  | .ListComp _ _ s _ => !(sc.names.lookup x == some .local && px.line == e.pos.line && !(s.names.any fun (n, k) => n == x && (k == .local || k == .cell)))
  | .SetComp _ _ _ _ => false
  | .DictComp _ _ _ _ _ => false
  | _ => true
def isSlice : Expr → Bool
  | .Slice _ _ _ _ => true
  | _ => false
def compSs (f : Stmt → Option S) : List Stmt → Option S
  | [] => some .skip
  | [s] => f s
  | s :: ss => match f s, compSs f ss with
    | some a, some b => some (.seq a b)
    | _, _ => none
/-- the number of a name in a list -/
def idOf (x : Str) : List Str → Nat → Option Nat
  | [], _ => none
  | y :: ys, n => if y = x then some n else idOf x ys (n + 1)
/-- an own exception class, by its name -/
def xId (gs : Gs) (sc : Scope) (x : Str) : Option Nat := if !nameOk x || !isGl sc x then none else match idOf x xNm 0 with
  | some c => if gs.xcs.contains c then some c else none
  | none => none
def xIds (gs : Gs) (sc : Scope) : List Expr → Option (List Nat)
  | [] => some []
  | .Name x _ :: es => match xId gs sc x, xIds gs sc es with
    | some c, some cs => some (c :: cs)
    | _, _ => none
  | _ => none
/-- within an except suite -/
def compX (N : List Str) (gs : Gs) (sc : Scope) : Nat → Expr → Option E
  | 0, _ => none
  | n + 1, ex => match ex with
    | .Name x _ => if nameOk x then match sc.names.lookup x with
        | some .local => (ixOf N x).map .var
        | some .cell => (ixOf N x).map .var
        | _ => none
      else none
    | .Constant c _ _ => match c with
      | .none => some (.cst .non)
      | .bool b => some (.cst (.bl b))
      | .int i => some (.cst (.int i))
      | .str s => some (.cst (.str s))
      | _ => none
    | .BinOp a .Add b _ => match compX N gs sc n a, compX N gs sc n b with
      | some x, some y => some (.bin .Add x y)
      | _, _ => none
    | .UnaryOp .Not a _ => (compX N gs sc n a).map .not_
    | .Compare a [op] [b] _ => match compX N gs sc n a, compX N gs sc n b with
      | some x, some y => some (.cmp op x y)
      | _, _ => none
    | .BoolOp _ [a] _ => compX N gs sc n a
    | .BoolOp .And (a :: b :: r) p => match compX N gs sc n a, compX N gs sc n (.BoolOp .And (b :: r) p) with
      | some x, some y => some (.and_ x y)
      | _, _ => none
    | .BoolOp .Or (a :: b :: r) p => match compX N gs sc n a, compX N gs sc n (.BoolOp .Or (b :: r) p) with
      | some x, some y => some (.or_ x y)
      | _, _ => none
    | .IfExp c a b _ => match compX N gs sc n c, compX N gs sc n a, compX N gs sc n b with
      | some x, some y, some z => some (.ite x y z)
      | _, _, _ => none
    | .Tuple es _ _ => (compAll (compX N gs sc n) es).map .tup
    | .List es _ => (compAll (compX N gs sc n) es).map .lst
    | .Subscript a b _ => match b with
      | .Slice _ _ _ _ => none
      | _ => match compX N gs sc n a, compX N gs sc n b with
        | some x, some y => some (.idx x y)
        | _, _ => none
    | .Attribute (.Name y q) f _ => match compX N gs sc n (.Name y q), idOf f fNm 0 with
      | some x, some j => some (.xat x j)
      | _, _ => none
    | .Call (.Name f _) [a] [] _ => if !nameOk f || !isGl sc f || gs.fns.contains f then none else if f = ("int" : Str) then (compX N gs sc n a).map fun x => .blt .int (.cons x .nil) else none
    | .Call (.Name f _) [a, c] [] _ => if !nameOk f || !isGl sc f || gs.fns.contains f then none else if f = ("isinstance" : Str) then match c with
        | .Name t _ => match tyOf t with
          | some ty => if !nameOk t || !isGl sc t then none else (compX N gs sc n a).map fun x => .isi x ty
          | none => if t = ("ValueError" : Str) then (if isGl sc t then (compX N gs sc n a).map fun x => .isx x [1] else none) else match compX N gs sc n a, xId gs sc t with
            | some x, some j => some (.isx x [j])
            | _, _ => none
        | .Tuple ts _ _ => match compX N gs sc n a, xIds gs sc ts with
          | some x, some js => if js.length ≤ 100 then some (.isx x js) else none
          | _, _ => none
        | _ => none
      else none
    | _ => none
def compXS (N : List Str) (gs : Gs) (sc : Scope) : Nat → Stmt → Option S
  | 0, _ => none
  | n + 1, st => match st with
    | .Pass _ => some .skip
    | .Return (some e) _ => (compX N gs sc n e).map .ret
    | .If c a b _ => match compX N gs sc n c, compSs (compXS N gs sc n) a, compSs (compXS N gs sc n) b with
      | some x, some y, some z => some (.ite x y z)
      | _, _, _ => none
    | .Assign [.Name x _] e _ => if !isLoc sc x || !isPlainVal e then none else match ixOf N x, compX N gs sc n e with
      | some i, some a => some (.asg (.nm i) a)
      | _, _ => none
    | _ => none
/-- the clauses of a try -/
def compH (N : List Str) (gs : Gs) (sc : Scope) (n : Nat) : List ExceptHandler → Option S
  | [] => some .rer
  | .ExceptHandler (some (.Name x _)) nm (b0 :: b) _ :: r => match xId gs sc x, compSs (compXS N gs sc n) (b0 :: b), compH N gs sc n r with
    | some c, some s, some h => match nm with
      | none => some (.hnd [c] none s h)
      | some y => if sc.names.lookup y == some .local then (ixOf N y).map fun i => .hnd [c] (some i) s h else none
    | _, _, _ => none
  | _ => none
def compS (N : List Str) : Gs → Scope → Nat → Stmt → Option S
  | _, _, 0, _ => none
  | gs, sc, n + 1, st => if gs.way st.pos = 20 then match st with
    | .Assign [.Subscript o i _] e _ => if !isPlainVal e && !isTup e || isSlice i then none else match regIx N, compE N gs n sc o, compE N gs n sc i, compE N gs n sc e with
      | some h, some x, some y, some z => some (.seth h x y z)
      | _, _, _, _ => none
    | _ => none
    else match st with
    | .Pass _ => some .skip
    | .Raise e c _ => if gs.rz then match e, c with
        | some (.Call (.Name x _) es [] _), none => match xId gs sc x, compAll (compE N gs n sc) es with
          | some c, some a => if gs.xrs.contains c && decide (es.length = (xFl c).length) then some (.rse c a) else none
          | _, _ => none
        | _, _ => none
      else some .never
    | .Try b hs e [] _ => match hs with
      | [] => none
      | h :: hs => match compSs (compS N (gs.to true) sc n) b, compH N gs sc n (h :: hs), compSs (compS N gs sc n) e with
        | some x, some y, some z => some (.try_ x y z)
        | _, _, _ => none
    | .Break _ => some .brk
    | .Continue _ => some .cnt
    | .Return none _ => some .retn
    | .Return (some e) _ => (compE N gs n sc e).map .ret
    | .Expr e _ => if isPlainVal e then (compE N gs n sc e).map .ex else none
    | .If c a b _ => match compE N gs n sc c, compSs (compS N gs sc n) a, compSs (compS N gs sc n) b with
      | some x, some y, some z => some (.ite x y z)
      | _, _, _ => none
    | .While c b [] _ => match compE N gs n sc c, compSs (compS N gs sc n) b with
      | some x, some y => some (.while_ x y)
      | _, _ => none
    | .For tg it b [] _ => match compI (compE N gs n sc) sc gs (isTup tg) it, compTg N sc 8 tg, compSs (compS N gs sc n) b with
      | some (k, as), some t, some y => some (.for_ t k as y)
      | _, _, _ => none
    | .Assign [.Name x px] e _ => if !isLoc sc x then none else match ixOf N x, compE N gs n sc e with
      | some i, some a => if ((gs.fz.lookup N).getD []).contains x then some (.asgd i a) else some (.asg (.nm i) a)
      | _, _ => none
    | .Assign [.Tuple ts k p] e _ => match ts, e with
      | [.Name x px, .Name y py], .Tuple [a, b] ke pe =>
        if sc.names.lookup x == some .local && sc.names.lookup y == some .local && px.line == py.line && !(x == y) && !([a, b].all (foldedForSure 8)) && !([a, b].all (constantsAlone 8)) then
          match ixOf N x, ixOf N y, compE N gs n sc a, compE N gs n sc b with
          | some i, some j, some u, some v => some (.par i j u v)
          | _, _, _, _ => none
        else if sc.names.lookup x == some .cell || sc.names.lookup y == some .cell || [a, b].all (foldedForSure 8) then
          match compTg N sc 8 (.Tuple [.Name x px, .Name y py] k p), compE N gs n sc (.Tuple [a, b] ke pe) with
          | some t, some v => some (.asg t v)
          | _, _ => none
        else none
      | _, _ => if !isPlainVal e then none else match compTg N sc 8 (.Tuple ts k p), compE N gs n sc e with
        | some t, some a => some (.asg t a)
        | _, _ => none
    | .Assign [.Subscript (.Name x px) i _] e _ => if !isPlainVal e && !isTup e || isSlice i || !nameOk x || !(isLoc sc x || sc.names.lookup x == some .free) then none else match ixOf N x, compE N gs n sc i, compE N gs n sc e with
      | some o, some a, some b => some (.set o a b)
      | _, _, _ => none
    | .AugAssign (.Name x _) op e _ => if !isLoc sc x then none else match ixOf N x, compE N gs n sc e with
      | some i, some a => some (.aug i op a)
      | _, _ => none
    | .AugAssign (.Subscript (.Name x _) i _) op e _ => if isSlice i || !nameOk x || !(isLoc sc x || sc.names.lookup x == some .free) then none else match ixOf N x, compE N gs n sc i, compE N gs n sc e with
      | some o, some a, some b => some (.augs o a op b)
      | _, _, _ => none
    | _ => none
/-- a def's core: its parameters, all its slots -/
def compD (N ps : List Str) (gs : Gs) (r : Bool) (st : Stmt) : Option Fn := (compSs (compS N (gs.to r) (L2.defScope st) 60) (L2.defBody st)).bind fun b => match ixOf N ("@" : Str) with
  | some h => if h = ps.length ∧ (L2.defScope st).names.lookup ("@" : Str) = none then some ⟨ps.length + 1, N.length, .rgn h b, r⟩ else none
  | none => match ixOf N ("#" : Str) with
    | some h => if ps.length ≤ h ∧ (L2.defScope st).names.lookup ("#" : Str) = none then some ⟨ps.length, N.length, .root h b, r⟩ else none
    | none => some ⟨ps.length, N.length, b, r⟩
end Itp

namespace Itp
variable [KF]
open PySem PySem.Spec PyProof.Rows
open L2 (V Hp HO upd upd_same upd_ne ne_of ne_of_none Same Cx Inv OpR CallR MtR IxR SlR PSet TruR Room RelV EP VK SqL SqT Dp DpAll It TI TE TA TT TG TS TO PI PE PT PW PA PG PS PSs PO PTs PIE thn Turn FpOk Itl Itt Its Itr Itc Itv Ite Itz Gl Vis Loc Sp FnOk Binds Ends)
/-! ### the readings -/
def PostE (Q : VK) (σ : L2.St) (st : St) (Hs H : Hp) : R → St → Prop := fun r st' => ∀ v H' Hs', Ok σ st' Hs' H' → Fr σ st Hs H σ st' Hs' H' → RRep σ st' Hs' H' v r → Fresh σ st H v r → Q v H'
def PostT (Q : Bool → Hp → Prop) (σ : L2.St) (st : St) (Hs H : Hp) : Bool → St → Prop := fun b st' => ∀ H' Hs', Ok σ st' Hs' H' → Fr σ st Hs H σ st' Hs' H' → Q b H'
def PostA (Q : List V → Hp → Prop) (σ : L2.St) (st : St) (Hs H : Hp) : List R → St → Prop := fun rs st' => ∀ vs H' Hs', Ok σ st' Hs' H' → Fr σ st Hs H σ st' Hs' H' → RA σ st' Hs' H' rs vs → FreshA σ st H vs rs → Q vs H'
def PostO (Q : Option Int → Hp → Prop) (σ : L2.St) (st : St) (Hs H : Hp) : Option Int → St → Prop := fun o st' => ∀ H' Hs', Ok σ st' Hs' H' → Fr σ st Hs H σ st' Hs' H' → Q o H'
/-- what a body wishes of exceptions, what the names hold, what is handled -/
structure XP where
  W : L2.WX
  mg : Str → Option Value
  cur : Option (Addr × Nat × Option Addr)
  xrs : List Nat
/-- the own class of a number -/
def ClsAt (mg : Str → Option Value) (c : Nat) (cls : Value) : Prop := ∃ n C, xNm[c]? = some n ∧ mg n = some (.ref C) ∧ cls = .ref C
/-- an exception of class c with these fields, wished for by E -/
def ExG (mg : Str → Option Value) (xrs : List Nat) (E : L2.XK) (c : Nat) (ds : List D) (H' : Hp) : Prop := c ∈ xrs → ds.all D.isScal = true → ds.length = (xFl c).length → ∀ cls, ClsAt mg c cls → match ds with
  | [] => E cls none H'
  | _ :: _ => ∀ d, H' d = none → E cls (some d) (upd H' d (.xd (xFs c ds)))
def ExW (Y : XP) (c : Nat) (ds : List D) (σ : L2.St) (H' : Hp) : Prop := ExG Y.mg Y.xrs (fun cls d H => Y.W cls d σ H) c ds H'
/-- nothing is wished -/
def XP.tt (Y : XP) : XP := ⟨fun _ _ _ _ => True, Y.mg, Y.cur, Y.xrs⟩
def PostX (Y : XP) (σ : L2.St) (st : St) (Hs H : Hp) : Xc where
  ex := fun c ds st' => ∀ H' Hs', Ok σ st' Hs' H' → Fr σ st Hs H σ st' Hs' H' → ExW Y c ds σ H'
  cur := Y.cur
theorem PostX.shift {Y : XP} {σ : L2.St} {st st1 : St} {Hs H Hs1 H1 : Hp} (f : Fr σ st Hs H σ st1 Hs1 H1) : Xc.Le (PostX Y σ st Hs H) (PostX Y σ st1 Hs1 H1) :=
  ⟨fun c ds s q H' Hs' a b => q H' Hs' a (f.trans b), rfl⟩
theorem ExG.tt {mg : Str → Option Value} {xrs : List Nat} {c : Nat} {ds : List D} {H' : Hp} : ExG mg xrs (fun _ _ _ => True) c ds H' := by
  intro _ _ _ cls _
  cases ds with
  | nil => trivial
  | cons _ _ => exact fun _ _ => trivial
theorem PostX.tt {X0 : Xc} {Y : XP} {σ : L2.St} {st : St} {Hs H : Hp} (e : X0.cur = Y.cur) : Xc.Le X0 (PostX Y.tt σ st Hs H) := ⟨fun _ _ _ _ _ _ _ _ => ExG.tt, e⟩
section
variable (C : Ct) (Y : XP)
def TrE (e : E) : TE := fun σ H Q => ∃ st Hs, Ok σ st Hs H ∧ wpE C (PostX Y σ st Hs H) e st (PostE Q σ st Hs H)
def TrT (e : E) : TT := fun σ H Q => ∃ st Hs, Ok σ st Hs H ∧ wpT C (PostX Y σ st Hs H) e st (PostT Q σ st Hs H)
def TrA (e : E) : TA := fun σ H Q => ∃ st Hs, Ok σ st Hs H ∧ wpA C (PostX Y σ st Hs H) e st (PostA Q σ st Hs H)
def TrO (e : E) : TO := fun σ H Q => ∃ st Hs, Ok σ st Hs H ∧ wpO C (PostX Y σ st Hs H) e st (PostO Q σ st Hs H)
end
/-- the reading of a statement -/
def EnOf (Y : XP) (D : Ends) (σ : L2.St) (st : St) (Hs H : Hp) : En where
  nx := fun st' => ∀ σ' H' Hs', Ok σ' st' Hs' H' → Fr σ st Hs H σ' st' Hs' H' → D.nx σ' H'
  bk := fun st' => ∀ σ' H' Hs', Ok σ' st' Hs' H' → Fr σ st Hs H σ' st' Hs' H' → D.bk σ' H'
  ct := fun st' => ∀ σ' H' Hs', Ok σ' st' Hs' H' → Fr σ st Hs H σ' st' Hs' H' → D.ct σ' H'
  rt := fun r st' => ∀ σ' v H' Hs', Ok σ' st' Hs' H' → Fr σ st Hs H σ' st' Hs' H' → RRep σ' st' Hs' H' v r → (∀ a ∈ tmp r v, Own σ st a ∨ H a = none) → D.rt v H'
  ex := fun c ds st' => ∀ σ' H' Hs', Ok σ' st' Hs' H' → Fr σ st Hs H σ' st' Hs' H' → ExW Y c ds σ' H'
  cur := Y.cur
theorem EnOf.le {Y : XP} {D : Ends} {σ0 σ : L2.St} {st0 st : St} {Hs0 H0 Hs H : Hp} (f : Fr σ0 st0 Hs0 H0 σ st Hs H) : Xc.Le (EnOf Y D σ0 st0 Hs0 H0).xc (PostX Y σ st Hs H) :=
  ⟨fun c ds s q H' Hs' a b => q σ H' Hs' a (f.trans b), rfl⟩
theorem PE.imp {X : Cx} {e : Expr} {t t' : TE} (h : PE X e t) (i : ∀ σ H Q, t' σ H Q → t σ H Q) : PE X e t' := ⟨fun pins s σ H Q I q => h.run pins s σ H Q I (i _ _ _ q)⟩
theorem PT.imp {X : Cx} {e : Expr} {t t' : TT} (h : PT X e t) (i : ∀ σ H Q, t' σ H Q → t σ H Q) : PT X e t' := ⟨fun pins s σ H Q I q => h.run pins s σ H Q I (i _ _ _ q)⟩
theorem PW.imp {X : Cx} {e : Expr} {t t' : TT} (h : PW X e t) (i : ∀ σ H Q, t' σ H Q → t σ H Q) : PW X e t' := ⟨fun wh pins s σ H Q I q => h.run wh pins s σ H Q I (i _ _ _ q)⟩
theorem PA.imp {X : Cx} {e : List Expr} {t t' : TA} (h : PA X e t) (i : ∀ σ H Q, t' σ H Q → t σ H Q) : PA X e t' := ⟨fun pos pins s σ H Q I q => h.run pos pins s σ H Q I (i _ _ _ q)⟩
theorem PI.imp {X : Cx} {tg e : Expr} {t t' : TI} (h : PI X tg e t) (i : ∀ σ H Q, t' σ H Q → t σ H Q) : PI X tg e t' := ⟨fun pins s σ H Q I q => h.run pins s σ H Q I (i _ _ _ q)⟩
theorem PO.imp {X : Cx} {e : Option Expr} {t t' : TO} (h : PO X e t) (i : ∀ σ H Q, t' σ H Q → t σ H Q) : PO X e t' := ⟨fun pins s σ H Q I q => h.run pins s σ H Q I (i _ _ _ q)⟩
section
variable {C : Ct} (hC : CtMono C) {Y : XP} {X0 : Xc} {σ : L2.St} {st : St} {Hs H : Hp}
include hC
theorem bindE {e : E} {F : R → St → Prop} {G : VK} (ok : Ok σ st Hs H) (w : wpE C X0 e st F) (h : ∀ r st' v H' Hs', F r st' → Ok σ st' Hs' H' → Fr σ st Hs H σ st' Hs' H' → RRep σ st' Hs' H' v r → Fresh σ st H v r → G v H') (hx : Xc.Le X0 (PostX Y σ st Hs H) := by first | exact Xc.Le.rfl | exact PostX.shift (by assumption) | exact EnOf.le (by assumption) | exact EnOf.le Fr.refl | exact PostX.shift (Fr.trans (by assumption) (by assumption)) | exact EnOf.le (Fr.trans (by assumption) (by assumption)) | exact PostX.shift (Fr.trans (Fr.trans (by assumption) (by assumption)) (by assumption)) | exact EnOf.le (Fr.trans (Fr.trans (by assumption) (by assumption)) (by assumption))) : TrE C Y e σ H G :=
  ⟨st, Hs, ok, wpE_monoX hC hx w fun r st' f v H' Hs' a b c d => h r st' v H' Hs' f a b c d⟩
theorem bindT {e : E} {F : Bool → St → Prop} {G : Bool → Hp → Prop} (ok : Ok σ st Hs H) (w : wpT C X0 e st F) (h : ∀ b st' H' Hs', F b st' → Ok σ st' Hs' H' → Fr σ st Hs H σ st' Hs' H' → G b H') (hx : Xc.Le X0 (PostX Y σ st Hs H) := by first | exact Xc.Le.rfl | exact PostX.shift (by assumption) | exact EnOf.le (by assumption) | exact EnOf.le Fr.refl | exact PostX.shift (Fr.trans (by assumption) (by assumption)) | exact EnOf.le (Fr.trans (by assumption) (by assumption)) | exact PostX.shift (Fr.trans (Fr.trans (by assumption) (by assumption)) (by assumption)) | exact EnOf.le (Fr.trans (Fr.trans (by assumption) (by assumption)) (by assumption))) : TrT C Y e σ H G :=
  ⟨st, Hs, ok, wpT_monoX hC hx w fun r st' f H' Hs' a b => h r st' H' Hs' f a b⟩
theorem bindA {e : E} {F : List R → St → Prop} {G : List V → Hp → Prop} (ok : Ok σ st Hs H) (w : wpA C X0 e st F) (h : ∀ rs st' vs H' Hs', F rs st' → Ok σ st' Hs' H' → Fr σ st Hs H σ st' Hs' H' → RA σ st' Hs' H' rs vs → FreshA σ st H vs rs → G vs H') (hx : Xc.Le X0 (PostX Y σ st Hs H) := by first | exact Xc.Le.rfl | exact PostX.shift (by assumption) | exact EnOf.le (by assumption) | exact EnOf.le Fr.refl | exact PostX.shift (Fr.trans (by assumption) (by assumption)) | exact EnOf.le (Fr.trans (by assumption) (by assumption)) | exact PostX.shift (Fr.trans (Fr.trans (by assumption) (by assumption)) (by assumption)) | exact EnOf.le (Fr.trans (Fr.trans (by assumption) (by assumption)) (by assumption))) : TrA C Y e σ H G :=
  ⟨st, Hs, ok, wpA_monoX hC hx w fun r st' f v H' Hs' a b c d => h r st' v H' Hs' f a b c d⟩
theorem bindO {e : E} {F : Option Int → St → Prop} {G : Option Int → Hp → Prop} (ok : Ok σ st Hs H) (w : wpO C X0 e st F) (h : ∀ b st' H' Hs', F b st' → Ok σ st' Hs' H' → Fr σ st Hs H σ st' Hs' H' → G b H') (hx : Xc.Le X0 (PostX Y σ st Hs H) := by first | exact Xc.Le.rfl | exact PostX.shift (by assumption) | exact EnOf.le (by assumption) | exact EnOf.le Fr.refl | exact PostX.shift (Fr.trans (by assumption) (by assumption)) | exact EnOf.le (Fr.trans (by assumption) (by assumption)) | exact PostX.shift (Fr.trans (Fr.trans (by assumption) (by assumption)) (by assumption)) | exact EnOf.le (Fr.trans (Fr.trans (by assumption) (by assumption)) (by assumption))) : TrO C Y e σ H G :=
  ⟨st, Hs, ok, wpO_monoX hC hx w fun r st' f H' Hs' a b => h r st' H' Hs' f a b⟩
end
/-! ### the context that a body is walked in -/
/-- what a call of f promises, of at most k defs within one another -/
structure CallPost (vs : List V) (os : List O) (Hs H : Hp) (res : O) (fin : List (Option O)) (v : V) (H' Hs' : Hp) : Prop where
  sub : Same Hs Hs'
  sub2 : Same Hs' H'
  keep : ∀ a o, H a = some o → ¬ Own (vs.map some) (os.map some) a → H' a = some o
  dom : ∀ a, H' a = none → H a = none
  shr : ∀ a, Hs a = none → ¬ Own (vs.map some) (os.map some) a → H a ≠ none → Hs' a = none
  len : fin.length = os.length
  back : ∀ (j : Nat) (xs : List D), os[j]? = some (.l true xs) → ∃ ys a ws, fin[j]? = some (some (.l true ys)) ∧ vs[j]? = some (.ref a) ∧ H' a = some (.lst ws) ∧ ShA Hs' ys ws ∧ Hs' a = none
  res : match res with
    | .d x => Sh Hs' x v
    | .l _ xs => ∃ a ws, v = .ref a ∧ H' a = some (.lst ws) ∧ ShA Hs' xs ws ∧ Hs' a = none ∧ (Own (vs.map some) (os.map some) a ∨ H a = none) ∧ (∀ (j : Nat) (zs : List D), os[j]? = some (.l true zs) → vs[j]? ≠ some (.ref a)) ∧
        ∀ (j : Nat) (M : List (Addr × D)) (L : List Nat), fin[j]? = some (some (.h M L)) → ∀ (n : Nat) (x : D), M[n]? ≠ some (a, x)
    | .k _ _ => False
    | .h _ _ => False
  reg : ∀ (j : Nat) (M : List (Addr × D)) (L : List Nat), os[j]? = some (.h M L) → ∃ M', fin[j]? = some (some (.h M' L)) ∧ Rgn Hs' H' M' ∧ (∀ (n : Nat) (a : Addr) (x : D), M[n]? = some (a, x) → ∃ y, M'[n]? = some (a, y) ∧ (n ∈ L → y = x)) ∧
    ∀ (n : Nat) (a : Addr) (x : D), M'[n]? = some (a, x) → M.length ≤ n → (Own (vs.map some) (os.map some) a ∨ H a = none) ∧ ∀ (j : Nat) (zs : List D), os[j]? = some (.l true zs) → vs[j]? ≠ some (.ref a)
def spF (C : Ct) (f : Str) (np : Nat) : Sp := fun vs H Q _ => vs.length = np ∧ ∃ os Hs, (∀ (j : Nat) (M : List (Addr × D)) (L : List Nat), (os.map some)[j]? ≠ some (some (.h M L))) ∧ Ok (vs.map some) (os.map some) Hs H ∧ C f os fun res fin => ∀ v H' Hs', CallPost vs os Hs H res fin v H' Hs' → Q v H'
/-- a call that may raise: what it leaves at an exception -/
def spX (C : Ct) (mg : Str → Option Value) (xrs : List Nat) (f : Str) (np : Nat) : Sp := fun vs H Q E => vs.length = np ∧ ∃ os Hs, (∀ (j : Nat) (M : List (Addr × D)) (L : List Nat), (os.map some)[j]? ≠ some (some (.h M L))) ∧ Ok (vs.map some) (os.map some) Hs H ∧ C f os fun res fin =>
  excTo res (fun c ds => ∀ H' Hs', CallPost vs os Hs H (.d .non) fin .non H' Hs' → ExG mg xrs E c ds H') (∀ v H' Hs', CallPost vs os Hs H res fin v H' Hs' → Q v H')
/-- .. of a def to which a region is lent -/
def spH (C : Ct) (f : Str) (np : Nat) : Sp := fun vs H Q _ => vs.length = np ∧ ∃ os Hs, os.length = np + 1 ∧ (∃ M L, os[np]? = some (O.h M L)) ∧ Ok ((vs ++ [V.non]).map some) (os.map some) Hs H ∧ C f os fun res fin => ∀ v H' Hs', CallPost (vs ++ [V.non]) os Hs H res fin v H' Hs' → Q v H'
def spHX (C : Ct) (mg : Str → Option Value) (xrs : List Nat) (f : Str) (np : Nat) : Sp := fun vs H Q E => vs.length = np ∧ ∃ os Hs, os.length = np + 1 ∧ (∃ M L, os[np]? = some (O.h M L)) ∧ Ok ((vs ++ [V.non]).map some) (os.map some) Hs H ∧ C f os fun res fin =>
  excTo res (fun c ds => ∀ H' Hs', CallPost (vs ++ [V.non]) os Hs H (.d .non) fin .non H' Hs' → ExG mg xrs E c ds H') (∀ v H' Hs', CallPost (vs ++ [V.non]) os Hs H res fin v H' Hs' → Q v H')
/-- the text of an exception's __init__: each field is stored -/
def InitIs : List Str → List Stmt → Prop
  | [], b => b = []
  | f :: fs, s :: b => (∃ q1 q2 q3 q4, s = .Assign [.Attribute (.Name "self" q1) f q2] (.Name f q3) q4) ∧ InitIs fs b
  | _ :: _, [] => False
def xfN (c : Nat) : List Str := (xFl c).map fun f => (fNm[f]?).getD ("" : Str)
/-- an own exception class, as it is named and tested -/
structure XcOk (K : PySem.W.Frag) (mg : Str → Option Value) (xcs : List Nat) (A : Nat → Addr) (c : Nat) : Prop where
  mg : ∃ n, xNm[c]? = some n ∧ mg n = some (.ref (A c))
  kp : PySem.W.keepIn K (.ref (A c)) = true
  sb : PySem.W.subIn K (.ref (A c)) (.type "BaseException") = some true
  ty : PySem.W.typeIn K (.ref (A c)) = some (.type "type")
  hd : PySem.W.hasDictIn K (A c) = true
  sv : PySem.W.subIn K (.ref (A c)) (.type "ValueError") = some true
  su : ∀ c' ∈ xcs, PySem.W.subIn K (.ref (A c)) (.ref (A c')) = some (xsub c c')
/-- .. as it is made and read -/
structure XmOk (K : PySem.W.Frag) (c : Nat) (C : Addr) : Prop where
  ga : PySem.W.findIn K (.ref C) "__getattribute__" = some (some (.builtin "BaseException.__getattribute__"))
  gg : PySem.W.findIn K (.ref C) "__getattr__" = some none
  ha : PySem.W.findIn K (.ref C) "__class__" = some (some (.builtin "object.__class__"))
  hn : PySem.W.specialIn K (.builtin "object.__class__") "__get__" = some (some (.builtin "getset_descriptor.__get__"))
  ht : PySem.W.takesIn K (.builtin "object.__class__") = some true
  hm : PySem.W.mroIn K C (.type "object") = some true
  no : ∀ f ∈ xfN c, PySem.W.findIn K (.ref C) f = some none
  pl : xFl c = [] → PySem.W.excIn K C [.type "ValueError", .type "Exception", .type "BaseException", .type "object"] "ValueError.__new__" = true
  ini : xFl c ≠ [] → L2.OexC K C ∧ ∃ (fI : Addr) (fd : FuncData) (st : Stmt) (qual : Str), PySem.W.findIn K (.ref C) "__init__" = some (some (.ref fI)) ∧ PySem.W.typeIn K (.ref fI) = some (.type "function") ∧
    L2.Fun K "__init__" qual st fI fd ∧ L2.FnScope ("self" :: xfN c) ("self" :: xfN c) (L2.defScope st) ∧ InitIs (xfN c) (L2.defBody st) ∧ Binds K fd ("self" :: xfN c) []
/-- a body is walked -/
structure Gd (T : Tab) (k : Nat) (gs : Gs) (N : List Str) (sc : Scope) (X : Cx) (Y : XP) : Prop where
  eqN : X.N = N
  nd : N.Nodup
  eqS : X.env.scope = sc
  calm : X.calm = true
  kk : X.K = KF.k
  room : Room (k + 2) X.A
  gd : X.A.guards = some []
  blt : ∀ x ∈ bltNames, X.mg x = none
  cst : ∀ x d, gs.csts.lookup x = some d → ∃ u v, X.mg x = some u ∧ RelV v u ∧ ∀ Hs, Sh Hs d v
  tab : ∀ f ∈ gs.fns, ∃ fa fd ps, X.mg f = some (.ref fa) ∧ PySem.W.keepIn X.K (.ref fa) = true ∧ Binds X.K fd ps [] ∧ (∃ F, T f = some F ∧ F.np = ps.length) ∧ FnG X.prog X.w X.K X.mg X.base (k + 2) fa fd ps (spF (call T k) f ps.length)
  emg : X.mg = Y.mg
  exr : gs.xrs = Y.xrs
  tk : gs.rz = true → L2.Takes X Y.W
  rtab : ∀ f g, gs.rs.lookup f = some g → ∃ fa fd ps, X.mg f = some (.ref fa) ∧ PySem.W.keepIn X.K (.ref fa) = true ∧ Binds X.K fd ps [] ∧ (∃ F, T g = some F ∧ F.np = ps.length) ∧ FnX X.prog X.w X.K X.mg X.base (k + 2) fa fd ps (spX (call T k) X.mg gs.xrs g ps.length)
  xcls : ∃ A : Nat → Addr, (∀ c ∈ gs.xcs, XcOk X.K X.mg gs.xcs A c) ∧ (∀ c ∈ gs.xrs, c ∈ gs.xcs ∧ XmOk X.K c (A c))
  htab : ∀ f g, gs.hs.lookup f = some g → ∃ fa fd ps, X.mg f = some (.ref fa) ∧ PySem.W.keepIn X.K (.ref fa) = true ∧ Binds X.K fd ps [] ∧ (∃ F, T g = some F ∧ F.np = ps.length + 1) ∧ FnG X.prog X.w X.K X.mg X.base (k + 2) fa fd ps (spH (call T k) g ps.length)
  hxtab : ∀ f g, gs.hxs.lookup f = some g → ∃ fa fd ps, X.mg f = some (.ref fa) ∧ PySem.W.keepIn X.K (.ref fa) = true ∧ Binds X.K fd ps [] ∧ (∃ F, T g = some F ∧ F.np = ps.length + 1) ∧ FnX X.prog X.w X.K X.mg X.base (k + 2) fa fd ps (spHX (call T k) X.mg gs.xrs g ps.length)
theorem Gd.unw {T : Tab} {k : Nat} {gs : Gs} {N : List Str} {sc : Scope} {X : Cx} {Y : XP} (g : Gd T k gs N sc X Y) (p : Pos) : Gd T k (gs.unw p) N sc X Y :=
  ⟨g.eqN, g.nd, g.eqS, g.calm, g.kk, g.room, g.gd, g.blt, g.cst, g.tab, g.emg, g.exr, g.tk, g.rtab, g.xcls, g.htab, g.hxtab⟩
section
variable {T : Tab} {k : Nat} {gs : Gs} {N : List Str} {sc : Scope} {X : Cx} {Y : XP}
/-- what also holds while an exception is handled -/
structure Gh (N : List Str) (sc : Scope) (X : Cx) : Prop where
  eqN : X.N = N
  nd : N.Nodup
  eqS : X.env.scope = sc
  blt : ∀ x ∈ bltNames, X.mg x = none
  un : X.A.units + 100 < cLine
theorem Gd.gh (g : Gd T k gs N sc X Y) : Gh N sc X := ⟨g.eqN, g.nd, g.eqS, g.blt, room_cu g.room⟩
theorem Gh.vis (g : Gh N sc X) {x : Str} (h : sc.names.lookup x = some .local ∨ sc.names.lookup x = some .cell ∨ sc.names.lookup x = some .free) : Vis X.env.scope x := by rw [g.eqS]; exact h
theorem Gh.gl (g : Gh N sc X) {x : Str} (h : isGl sc x = true) : Gl X x := by
  show List.lookup x X.env.scope.names = some .globalImplicit
  rw [g.eqS]
  unfold isGl at h
  split at h
  · assumption
  · cases h
theorem Gd.vis (g : Gd T k gs N sc X Y) {x : Str} (h : sc.names.lookup x = some .local ∨ sc.names.lookup x = some .cell ∨ sc.names.lookup x = some .free) : Vis X.env.scope x := g.gh.vis h
theorem Gd.gl (g : Gd T k gs N sc X Y) {x : Str} (h : isGl sc x = true) : Gl X x := g.gh.gl h
theorem nameOk_of {x : Str} (h : nameOk x = true) : (x == ("__debug__" : Str)) = false ∧ (x == ("__classdict__" : Str)) = false ∧ x ≠ ("__name__" : Str) := by
  unfold nameOk at h
  simp only [Bool.and_eq_true, Bool.not_eq_true', beq_eq_false_iff_ne, ne_eq] at h
  exact ⟨beq_eq_false_iff_ne.mpr h.1.1, beq_eq_false_iff_ne.mpr h.1.2, h.2⟩
theorem pe_varT (g : Gh N sc X) {x : Str} {i : Nat} {pos : Pos} (hi : ixOf N x = some i) (hn : nameOk x = true) (hv : sc.names.lookup x = some .local ∨ sc.names.lookup x = some .cell ∨ sc.names.lookup x = some .free) : PE X (.Name x pos) (TrE (call T k) Y (.var i)) := by
  obtain ⟨n1, n2, _⟩ := nameOk_of hn
  refine PE.imp (L2.pe_var (i := i) (by rw [g.eqN]; exact ixOf_at hi) (g.vis hv) n1 n2) fun σ H Q h => ?_
  obtain ⟨st, Hs, ok, w⟩ := h
  simp only [wpE] at w
  split at w
  · rename_i y q
    obtain ⟨v, e, r⟩ := ok.rep i _ q
    exact ⟨v, e, w v H Hs ok Fr.refl r fun a ha => by simp [tmp] at ha⟩
  · rename_i o hne q
    obtain ⟨v, e, r⟩ := ok.rep i _ q
    exact ⟨v, e, w v H Hs ok Fr.refl ⟨e, _, q⟩ fun a ha => by simp [tmp] at ha⟩
  · exact w.elim
theorem pe_cstT {e : Expr} {d : D} {v : V} (h : PE X e (L2.tC v)) (hd : ∀ Hs, Sh Hs d v) : PE X e (TrE (call T k) Y (.cst d)) := by
  refine PE.imp h fun σ H Q h => ?_
  obtain ⟨st, Hs, ok, w⟩ := h
  simp only [wpE] at w
  exact w v H Hs ok Fr.refl (hd Hs) fun a ha => by simp [tmp] at ha
end

/-! ### arguments of a call -/
section
variable {σ σ0 : L2.St} {st st0 : St} {Hs H Hs0 H0 Hs' H' : Hp}
theorem argO_h {r : R} {M : List (Addr × D)} {L : List Nat} : argO r st ≠ some (.h M L) := by
  intro h
  cases r with
  | v o => cases o <;> simp [argO] at h
  | c i a n => simp [argO] at h
  | r i =>
    simp only [argO] at h
    split at h <;> cases h
theorem argO_d {r : R} {x : D} (h : argO r st = some (.d x)) : r = .v (.d x) ∨ (∃ i, r = .r i ∧ st[i]? = some (some (.d x))) ∨ ∃ i a n, r = .c i a n ∧ x = .ref a := by
  cases r with
  | v o => cases o <;> simp [argO] at h <;> simp [h]
  | c i a n => simp only [argO, Option.some.injEq, O.d.injEq] at h; exact .inr (.inr ⟨i, a, n, rfl, h.symm⟩)
  | r i =>
    simp only [argO] at h
    split at h
    · rename_i y q; cases h; exact .inr (.inl ⟨i, rfl, q⟩)
    · cases h
    · cases h
    · cases h
theorem argO_l {r : R} {p : Bool} {xs : List D} (h : argO r st = some (.l p xs)) : (p = false ∧ ∃ q, r = .v (.l q xs)) ∨ (p = true ∧ ∃ i q, r = .r i ∧ st[i]? = some (some (.l q xs))) := by
  cases r with
  | v o => cases o <;> simp [argO] at h; obtain ⟨rfl, rfl⟩ := h; exact .inl ⟨rfl, _, rfl⟩
  | c i a n => simp [argO] at h
  | r i =>
    simp only [argO] at h
    split at h
    · cases h
    · rename_i q y e; cases h; exact .inr ⟨rfl, i, q, rfl, e⟩
    · cases h
    · cases h
theorem argO_k {r : R} {p : Bool} {xs : List D} (h : argO r st = some (.k p xs)) : ∃ i q, r = .r i ∧ st[i]? = some (some (.k q xs)) := by
  cases r with
  | v o => cases o <;> simp [argO] at h
  | c i a n => simp [argO] at h
  | r i =>
    simp only [argO] at h
    split at h
    · cases h
    · cases h
    · rename_i q y e; cases h; exact ⟨i, q, rfl, e⟩
    · cases h
theorem args_at : ∀ {rs : List R} {os : List O}, args rs st = some os → os.length = rs.length ∧ ∀ (j : Nat) (o : O), os[j]? = some o → ∃ r, rs[j]? = some r ∧ argO r st = some o
  | [], os, h => by
    simp only [args, Option.some.injEq] at h
    subst h
    exact ⟨rfl, fun j o e => by simp at e⟩
  | r :: rs, os, h => by
    unfold args at h
    split at h
    · rename_i o os' e1 e2
      cases h
      obtain ⟨l, f⟩ := args_at e2
      refine ⟨by simp [l], fun j o' e => ?_⟩
      cases j with
      | zero => simp at e; subst e; exact ⟨r, rfl, e1⟩
      | succ j => exact f j o' (by simpa using e)
    · cases h
theorem RA.at : ∀ {rs : List R} {vs : List V}, RA σ st Hs H rs vs → ∀ {j : Nat} {r : R}, rs[j]? = some r → ∃ v, vs[j]? = some v ∧ RRep σ st Hs H v r
  | [], _, _, j, r, e => by simp at e
  | r :: rs, _, h, j, r', e => by
    obtain ⟨v, ws, rfl, q, t, _⟩ := h
    cases j with
    | zero => simp at e; subst e; exact ⟨v, rfl, q⟩
    | succ j =>
      obtain ⟨w, a, b⟩ := RA.at t (by simpa using e)
      exact ⟨w, by simpa using a, b⟩
theorem tmps_mem : ∀ {rs : List R} {vs : List V} {j : Nat} {r : R} {v : V} {a : Addr}, rs[j]? = some r → vs[j]? = some v → a ∈ tmp r v → a ∈ tmps rs vs
  | [], _, j, r, v, a, e, _, _ => by simp at e
  | _ :: _, [], j, r, v, a, _, e, _ => by simp at e
  | r0 :: rs, v0 :: vs, 0, r, v, a, e1, e2, h => by
    simp at e1 e2; subst e1; subst e2
    exact List.mem_append_left _ h
  | r0 :: rs, v0 :: vs, j + 1, r, v, a, e1, e2, h => List.mem_append_right _ (tmps_mem (by simpa using e1) (by simpa using e2) h)
theorem tmps_uniq : ∀ {rs : List R} {vs : List V}, RA σ st Hs H rs vs → ∀ {i j : Nat} {r r' : R} {v v' : V} {a : Addr}, rs[i]? = some r → rs[j]? = some r' → vs[i]? = some v → vs[j]? = some v' → a ∈ tmp r v → a ∈ tmp r' v' → i = j
  | [], _, _, i, j, r, r', v, v', a, e, _, _, _, _, _ => by simp at e
  | r0 :: rs, _, h, i, j, r, r', v, v', a, e1, e2, e3, e4, h1, h2 => by
    obtain ⟨v0, ws, rfl, q, t, d⟩ := h
    cases i with
    | zero =>
      cases j with
      | zero => rfl
      | succ j =>
        simp at e1 e3; subst e1; subst e3
        exact absurd (tmps_mem (rs := rs) (vs := ws) (j := j) (by simpa using e2) (by simpa using e4) h2) (d a h1)
    | succ i =>
      cases j with
      | zero =>
        simp at e2 e4; subst e2; subst e4
        exact absurd (tmps_mem (rs := rs) (vs := ws) (j := i) (by simpa using e1) (by simpa using e3) h1) (d a h2)
      | succ j => rw [tmps_uniq t (i := i) (j := j) (by simpa using e1) (by simpa using e2) (by simpa using e3) (by simpa using e4) h1 h2]
theorem lent_mem : ∀ {rs : List R} {j n : Nat} {p : Bool} {xs : List D}, rs[j]? = some (.r n) → st[n]? = some (some (.l p xs)) → n ∈ lent rs st
  | [], j, n, p, xs, e, _ => by simp at e
  | r0 :: rs, 0, n, p, xs, e, q => by
    simp at e; subst e
    simp only [lent, q]
    exact List.mem_cons_self
  | r0 :: rs, j + 1, n, p, xs, e, q => by
    have := lent_mem (rs := rs) (j := j) (by simpa using e) q
    cases r0 with
    | v o => simpa [lent] using this
    | c _ _ _ => simpa [lent] using this
    | r m =>
      simp only [lent]
      split
      · exact List.mem_cons_of_mem _ this
      · exact this
theorem lent_uniq : ∀ {rs : List R}, (lent rs st).Nodup → ∀ {i j n : Nat} {p : Bool} {xs : List D}, rs[i]? = some (.r n) → rs[j]? = some (.r n) → st[n]? = some (some (.l p xs)) → i = j
  | [], _, i, j, n, p, xs, e, _, _ => by simp at e
  | r0 :: rs, nd, i, j, n, p, xs, e1, e2, q => by
    have mem : ∀ {m : Nat}, rs[m]? = some (.r n) → n ∈ lent rs st := fun e => lent_mem e q
    have tl : (lent rs st).Nodup := by
      cases r0 with
      | v o => simpa [lent] using nd
      | c _ _ _ => simpa [lent] using nd
      | r n' =>
        simp only [lent] at nd
        split at nd
        · exact (List.nodup_cons.mp nd).2
        · exact nd
    have hd : ∀ {m : Nat}, r0 = .r n → rs[m]? = some (.r n) → False := by
      intro m e e'
      subst e
      simp only [lent, q] at nd
      exact (List.nodup_cons.mp nd).1 (mem e')
    cases i with
    | zero =>
      cases j with
      | zero => rfl
      | succ j => exact (hd (m := j) (by simpa using e1) (by simpa using e2)).elim
    | succ i =>
      cases j with
      | zero => exact (hd (m := i) (by simpa using e2) (by simpa using e1)).elim
      | succ j => rw [lent_uniq tl (i := i) (j := j) (by simpa using e1) (by simpa using e2) q]
theorem map_at {α β : Type} {f : α → β} {l : List α} {i : Nat} {y : β} (h : (l.map f)[i]? = some y) : ∃ x, l[i]? = some x ∧ y = f x := by
  rw [List.getElem?_map] at h
  cases e : l[i]? with
  | none => rw [e] at h; cases h
  | some x => rw [e] at h; cases h; exact ⟨x, rfl, rfl⟩
/-- at a call: the arguments stand as the callee wants them -/
theorem args_ok {rs : List R} {vs : List V} {os : List O} (k : Ok σ st Hs H) (ra : RA σ st Hs H rs vs) (e : args rs st = some os) (nd : (lent rs st).Nodup) : Ok (vs.map some) (os.map some) Hs H ∧
    ∀ a, Own (vs.map some) (os.map some) a → OwnS (vs.map some) (os.map some) a ∧ (OwnS σ st a ∨ a ∈ tmps rs vs) := by
  obtain ⟨l, f⟩ := args_at e
  have lv := ra.len
  -- the place of a held argument
  have pl : ∀ {j : Nat} {o : O} {a : Addr}, os[j]? = some o → held o = true → vs[j]? = some (.ref a) → (∃ p xs q, o = .l p xs ∧ rs[j]? = some (.v (.l q xs)) ∧ a ∈ tmp (.v (.l q xs)) (.ref a)) ∨
      (∃ p q xs n, o = .l p xs ∧ rs[j]? = some (.r n) ∧ st[n]? = some (some (.l q xs)) ∧ σ[n]? = some (some (.ref a))) ∨ (∃ p q xs n, o = .k p xs ∧ rs[j]? = some (.r n) ∧ st[n]? = some (some (.k q xs)) ∧ σ[n]? = some (some (.ref a))) := by
    intro j o a e1 hh e2
    obtain ⟨r, er, ar⟩ := f j o e1
    obtain ⟨v, ev, rr⟩ := ra.at er
    rw [e2] at ev; cases ev
    cases o with
    | d x => cases hh
    | h M L => cases hh
    | l p xs =>
      rcases argO_l ar with ⟨_, q, rfl⟩ | ⟨_, n, q, rfl, z⟩
      · exact .inl ⟨p, xs, q, rfl, er, by simp [tmp]⟩
      · exact .inr (.inl ⟨p, q, xs, n, rfl, er, z, rr.1⟩)
    | k p xs =>
      obtain ⟨n, q, rfl, z⟩ := argO_k ar
      exact .inr (.inr ⟨p, q, xs, n, rfl, er, z, rr.1⟩)
  have noh : ∀ (j : Nat) (M : List (Addr × D)) (L : List Nat), (os.map some)[j]? ≠ some (some (.h M L)) := fun j M L q => by
    obtain ⟨o', e1, e2⟩ := map_at q
    cases e2
    obtain ⟨r, er, ar⟩ := f j _ e1
    exact argO_h ar
  refine ⟨⟨by simp [l, lv], k.sub, fun j o q => ?_, fun i j p xs o a q1 q2 hh q3 q4 => ?_, fun a ⟨j, M, L, n, x, q, _⟩ => absurd q (noh j M L), fun i j M M' L L' q => absurd q (noh i M L)⟩, fun a z => ?_⟩
  · obtain ⟨o', e1, e2⟩ := map_at q
    cases e2
    obtain ⟨r, er, ar⟩ := f j o e1
    obtain ⟨v, ev, rr⟩ := ra.at er
    refine ⟨v, by rw [List.getElem?_map, ev]; rfl, ?_⟩
    cases o with
    | d x =>
      rcases argO_d ar with rfl | ⟨i, rfl, z⟩ | ⟨i, c, n, rfl, rfl⟩
      · exact rr
      · obtain ⟨w, e3, rp⟩ := k.rep i _ z
        rw [rr.1] at e3; cases e3
        exact rp
      · exact rr.1
    | h M L => exact (argO_h ar).elim
    | l p xs =>
      rcases argO_l ar with ⟨_, q, rfl⟩ | ⟨_, i, q, rfl, z⟩
      · obtain ⟨a, ws, e3, h1, h2, h3, _⟩ := rr
        exact ⟨a, ws, e3, h1, h2, h3⟩
      · obtain ⟨w, e3, rp⟩ := k.rep i _ z
        rw [rr.1] at e3; cases e3
        exact rp
    | k p xs =>
      obtain ⟨i, q, rfl, z⟩ := argO_k ar
      obtain ⟨w, e3, rp⟩ := k.rep i _ z
      rw [rr.1] at e3; cases e3
      exact rp
  · obtain ⟨o1, e1, z1⟩ := map_at q1
    cases z1
    obtain ⟨o2, e2, z2⟩ := map_at q2
    cases z2
    obtain ⟨v3, e3, z3⟩ := map_at q3
    cases z3
    obtain ⟨v4, e4, z4⟩ := map_at q4
    cases z4
    rcases pl e1 rfl e3 with ⟨p1, xs1, c1, _, r1, t1⟩ | ⟨p1, c1, xs1, n1, _, r1, s1, a1⟩ | ⟨p1, c1, xs1, n1, z, _⟩
    · rcases pl e2 hh e4 with ⟨p2, xs2, c2, _, r2, t2⟩ | ⟨p2, c2, xs2, n2, _, r2, s2, a2⟩ | ⟨p2, c2, xs2, n2, _, r2, s2, a2⟩
      · exact tmps_uniq ra r1 r2 e3 e4 t1 t2
      · obtain ⟨v, ev, rr⟩ := ra.at r1
        rw [e3] at ev; cases ev
        exact absurd (.inl ⟨n2, _, s2, rfl, a2⟩) (tmp_at rr t1).2.2
      · obtain ⟨v, ev, rr⟩ := ra.at r1
        rw [e3] at ev; cases ev
        exact absurd (.inl ⟨n2, _, s2, rfl, a2⟩) (tmp_at rr t1).2.2
    · rcases pl e2 hh e4 with ⟨p2, xs2, c2, _, r2, t2⟩ | ⟨p2, c2, xs2, n2, _, r2, s2, a2⟩ | ⟨p2, c2, xs2, n2, _, r2, s2, a2⟩
      · obtain ⟨v, ev, rr⟩ := ra.at r2
        rw [e4] at ev; cases ev
        exact absurd (.inl ⟨n1, _, s1, rfl, a1⟩) (tmp_at rr t2).2.2
      · have := k.inj n1 n2 _ _ _ a s1 s2 rfl a1 a2
        subst this
        exact lent_uniq nd r1 r2 s1
      · have := k.inj n1 n2 _ _ _ a s1 s2 rfl a1 a2
        subst this
        rw [s1] at s2; cases s2
    · cases z
  · rcases z with z | ⟨j, M, L, n, x, q, _⟩
    · refine ⟨z, ?_⟩
      obtain ⟨j, p, xs, q1, q2⟩ := z
      obtain ⟨o1, e1, z1⟩ := map_at q1
      cases z1
      obtain ⟨v2, e2, z2⟩ := map_at q2
      cases z2
      rcases pl e1 rfl e2 with ⟨p1, xs1, c1, _, r1, t1⟩ | ⟨p1, c1, xs1, n1, _, r1, s1, a1⟩ | ⟨p1, c1, xs1, n1, z, _⟩
      · exact .inr (tmps_mem r1 e2 t1)
      · exact .inl ⟨n1, _, _, s1, a1⟩
      · cases z
    · exact absurd q (noh j M L)
/-- the slots that a call writes back -/
theorem back_at {s0 : St} : ∀ {rs : List R} {os : List (Option O)} {s s2 : St}, back s0 rs os s = some s2 → s2.length = s.length ∧ (∀ i, i ∉ lent rs s0 → s2[i]? = s[i]?) ∧
    ((lent rs s0).Nodup → ∀ (j i : Nat) (p : Bool) (xs : List D), rs[j]? = some (.r i) → s0[i]? = some (some (.l p xs)) → i < s.length → ∃ ys, os[j]? = some (some (.l true ys)) ∧ s2[i]? = some (some (.l p ys)))
  | [], [], s, s2, h => by
    simp only [back, Option.some.injEq] at h
    subst h
    exact ⟨rfl, fun _ _ => rfl, fun _ j i p xs e => by simp at e⟩
  | [], _ :: _, s, s2, h => by simp [back] at h
  | .v o :: rs, [], s, s2, h => by simp [back] at h
  | .c _ _ _ :: rs, [], s, s2, h => by simp [back] at h
  | .r n :: rs, [], s, s2, h => by simp [back] at h
  | .v o :: rs, b :: os, s, s2, h => by
    simp only [back] at h
    obtain ⟨h0, h1, h2⟩ := back_at h
    refine ⟨h0, fun i hi => h1 i (by simpa [lent] using hi), fun nd j i p xs e q l => ?_⟩
    cases j with
    | zero => simp at e
    | succ j =>
      obtain ⟨ys, a, c⟩ := h2 (by simpa [lent] using nd) j i p xs (by simpa using e) q l
      exact ⟨ys, by simpa using a, c⟩
  | .c _ _ _ :: rs, b :: os, s, s2, h => by
    simp only [back] at h
    obtain ⟨h0, h1, h2⟩ := back_at h
    refine ⟨h0, fun i hi => h1 i (by simpa [lent] using hi), fun nd j i p xs e q l => ?_⟩
    cases j with
    | zero => simp at e
    | succ j =>
      obtain ⟨ys, a, c⟩ := h2 (by simpa [lent] using nd) j i p xs (by simpa using e) q l
      exact ⟨ys, by simpa using a, c⟩
  | .r n :: rs, b :: os, s, s2, h => by
    unfold back at h
    split at h
    · rename_i p0 xs0 q0
      split at h
      · rename_i o' ys0
        obtain ⟨h0, h1, h2⟩ := back_at h
        have le : lent (.r n :: rs) s0 = n :: lent rs s0 := by
          simp only [lent, q0]
        refine ⟨by simpa using h0, fun i hi => ?_, fun nd j i p xs e q l => ?_⟩
        · rw [le, List.mem_cons, not_or] at hi
          rw [h1 i hi.2, List.getElem?_set_ne (fun z => hi.1 z.symm)]
        · rw [le] at nd
          obtain ⟨nd1, nd2⟩ := List.nodup_cons.mp nd
          cases j with
          | zero =>
            simp at e; subst e
            rw [q0] at q; cases q
            exact ⟨ys0, rfl, by rw [h1 n nd1, List.getElem?_set_self l]⟩
          | succ j =>
            obtain ⟨ys, a, c⟩ := h2 nd2 j i p xs (by simpa using e) q (by simpa using l)
            exact ⟨ys, by simpa using a, c⟩
      · cases h
    · rename_i nl
      obtain ⟨h0, h1, h2⟩ := back_at h
      have le : lent (.r n :: rs) s0 = lent rs s0 := by
        simp only [lent]
      refine ⟨h0, fun i hi => h1 i (by rw [← le]; exact hi), fun nd j i p xs e q l => ?_⟩
      rw [le] at nd
      cases j with
      | zero =>
        simp at e; subst e
        exact absurd q (nl p xs)
      | succ j =>
        obtain ⟨ys, a, c⟩ := h2 nd j i p xs (by simpa using e) q l
        exact ⟨ys, by simpa using a, c⟩
theorem lent_of : ∀ {rs : List R} {i : Nat}, i ∈ lent rs st → ∃ (j : Nat) (p : Bool) (xs : List D), rs[j]? = some (.r i) ∧ st[i]? = some (some (.l p xs))
  | [], i, h => by simp [lent] at h
  | .v o :: rs, i, h => by
    obtain ⟨j, p, xs, a, b⟩ := lent_of (rs := rs) (by simpa [lent] using h)
    exact ⟨j + 1, p, xs, by simpa using a, b⟩
  | .c _ _ _ :: rs, i, h => by
    obtain ⟨j, p, xs, a, b⟩ := lent_of (rs := rs) (by simpa [lent] using h)
    exact ⟨j + 1, p, xs, by simpa using a, b⟩
  | .r n :: rs, i, h => by
    simp only [lent] at h
    split at h
    · rename_i p xs q
      rcases List.mem_cons.mp h with e | h
      · subst e; exact ⟨0, p, xs, rfl, q⟩
      · obtain ⟨j, p, xs, a, b⟩ := lent_of h
        exact ⟨j + 1, p, xs, by simpa using a, b⟩
    · obtain ⟨j, p, xs, a, b⟩ := lent_of h
      exact ⟨j + 1, p, xs, by simpa using a, b⟩
theorem args_noh {rs : List R} {os : List O} (e : args rs st = some os) : ∀ (j : Nat) (M : List (Addr × D)) (L : List Nat), (os.map some)[j]? ≠ some (some (.h M L)) := fun j M L q => by
  obtain ⟨l, f⟩ := args_at e
  obtain ⟨o', e1, e2⟩ := map_at q
  cases e2
  obtain ⟨r, er, ar⟩ := f j _ e1
  exact argO_h ar
/-- what a call makes of the caller's region -/
structure RegP (st st1 : St) (Hs' H' : Hp) (vs : List V) (os : List O) (Fresh : Addr → Prop) : Prop where
  len : st1.length = st.length
  same : ∀ (i : Nat), (∀ M L, st[i]? ≠ some (some (O.h M L))) → st1[i]? = st[i]?
  stay : ∀ (i : Nat) (M : List (Addr × D)) (L : List Nat), st[i]? = some (some (.h M L)) → ∃ M', st1[i]? = some (some (.h M' L)) ∧ Rgn Hs' H' M' ∧ (∀ (n : Nat) (a : Addr) (x : D), M[n]? = some (a, x) → ∃ y, M'[n]? = some (a, y) ∧ (n ∈ L → y = x)) ∧
    (∀ (n : Nat) (a : Addr) (x : D), M'[n]? = some (a, x) → (∃ y, M[n]? = some (a, y)) ∨ (M.length ≤ n ∧ Fresh a ∧ ∀ (j : Nat) (zs : List D), os[j]? = some (.l true zs) → vs[j]? ≠ some (.ref a)))
theorem call_gen {rs : List R} {vs : List V} {os : List O} {res : O} {fin : List (Option O)} {v : V} {st1 st2 : St} {Own' : Addr → Prop} (k : Ok σ st Hs H) (f0 : Fr σ st0 Hs0 H0 σ st Hs H) (ra : RA σ st Hs H rs vs) (fa : ∀ a ∈ tmps rs vs, Own σ st0 a ∨ H0 a = none)
    (e : args rs st = some os) (nd : (lent rs st).Nodup) (sub : Same Hs Hs') (sub2 : Same Hs' H') (ow' : ∀ a, Own' a → OwnS (vs.map some) (os.map some) a ∨ OwnH st a)
    (keep : ∀ a o, H a = some o → ¬ Own' a → H' a = some o) (dom : ∀ a, H' a = none → H a = none) (shr : ∀ a, Hs a = none → ¬ Own' a → H a ≠ none → Hs' a = none)
    (bk : ∀ (j : Nat) (xs : List D), os[j]? = some (.l true xs) → ∃ ys a ws, fin[j]? = some (some (.l true ys)) ∧ vs[j]? = some (.ref a) ∧ H' a = some (.lst ws) ∧ ShA Hs' ys ws ∧ Hs' a = none)
    (rp : RegP st st1 Hs' H' vs os fun a => Own' a ∨ H a = none) (eb : back st rs fin st1 = some st2)
    (rs' : match res with
      | .d x => Sh Hs' x v
      | .l _ xs => ∃ a ws, v = .ref a ∧ H' a = some (.lst ws) ∧ ShA Hs' xs ws ∧ Hs' a = none ∧ (Own' a ∨ H a = none) ∧ (∀ (j : Nat) (zs : List D), os[j]? = some (.l true zs) → vs[j]? ≠ some (.ref a)) ∧ ¬ HelH st1 a
      | .k _ _ => False
      | .h _ _ => False) :
    Ok σ st2 Hs' H' ∧ Fr σ st0 Hs0 H0 σ st2 Hs' H' ∧ RRep σ st2 Hs' H' v (.v res) ∧ ∀ a ∈ tmp (.v res) v, Own σ st0 a ∨ H0 a = none := by
  obtain ⟨oa, ow⟩ := args_ok k ra e nd
  obtain ⟨l, f⟩ := args_at e
  obtain ⟨b0, b1, b2⟩ := back_at eb
  have b2 := b2 nd
  -- a slot that is no region's: it is kept, or it was lent
  have nh1 : ∀ {i : Nat} {o : O}, st1[i]? = some (some o) → (∀ M L, o ≠ .h M L) → st[i]? = some (some o) := by
    intro i o q n
    by_cases z : ∃ M L, st[i]? = some (some (.h M L))
    · obtain ⟨M, L, z⟩ := z
      obtain ⟨M', e1, _⟩ := rp.stay i M L z
      rw [q] at e1; cases e1
      exact absurd rfl (n _ _)
    · rw [← rp.same i fun M L z2 => z ⟨M, L, z2⟩]; exact q
  have lst1 : ∀ {i : Nat}, i ∈ lent rs st → st1[i]? = st[i]? := fun {i} hi => by
    obtain ⟨j, p, xs, a, b⟩ := lent_of hi
    exact rp.same i fun M L z => by rw [b] at z; cases z
  have old : ∀ {i : Nat} {o : O}, st2[i]? = some (some o) → held o = true → ∃ o0, st[i]? = some (some o0) ∧ held o0 = true ∧ ((∃ p xs, o0 = .l p xs) ↔ ∃ p xs, o = .l p xs) := by
    intro i o q hh
    by_cases hi : i ∈ lent rs st
    · obtain ⟨j, p, xs, a, b⟩ := lent_of hi
      obtain ⟨ys, c1, c2⟩ := b2 j i p xs a b (by rw [rp.len]; exact (List.getElem?_eq_some_iff.mp b).1)
      rw [q] at c2; cases c2
      exact ⟨_, b, rfl, ⟨fun _ => ⟨_, _, rfl⟩, fun _ => ⟨_, _, rfl⟩⟩⟩
    · rw [b1 i hi] at q
      exact ⟨o, nh1 q (fun M L z => by subst z; cases hh), hh, Iff.rfl⟩
  have reg2 : ∀ {i : Nat} {M : List (Addr × D)} {L : List Nat}, st2[i]? = some (some (.h M L)) → st1[i]? = some (some (.h M L)) := by
    intro i M L q
    by_cases hi : i ∈ lent rs st
    · obtain ⟨j, p, xs, a, b⟩ := lent_of hi
      obtain ⟨ys, c1, c2⟩ := b2 j i p xs a b (by rw [rp.len]; exact (List.getElem?_eq_some_iff.mp b).1)
      rw [q] at c2; cases c2
    · rw [b1 i hi] at q; exact q
  have reg3 : ∀ {i : Nat} {M : List (Addr × D)} {L : List Nat}, st1[i]? = some (some (.h M L)) → ∃ M0, st[i]? = some (some (.h M0 L)) ∧ Rgn Hs' H' M ∧ (∀ (n : Nat) (a : Addr) (x : D), M0[n]? = some (a, x) → ∃ y, M[n]? = some (a, y) ∧ (n ∈ L → y = x)) ∧
      (∀ (n : Nat) (a : Addr) (x : D), M[n]? = some (a, x) → (∃ y, M0[n]? = some (a, y)) ∨ (M0.length ≤ n ∧ (Own' a ∨ H a = none) ∧ ∀ (j : Nat) (zs : List D), os[j]? = some (.l true zs) → vs[j]? ≠ some (.ref a))) := by
    intro i M L q
    by_cases z : ∃ M L, st[i]? = some (some (.h M L))
    · obtain ⟨M0, L0, z⟩ := z
      obtain ⟨M', e1, c1, c2, c3⟩ := rp.stay i M0 L0 z
      rw [q] at e1; cases e1
      exact ⟨M0, z, c1, c2, c3⟩
    · rw [rp.same i fun M L z2 => z ⟨M, L, z2⟩] at q
      exact absurd ⟨M, L, q⟩ z
  have hel2 : ∀ a, HelS σ st2 a → HelS σ st a := fun a ⟨i, o, q1, hh, q2⟩ => by
    obtain ⟨o0, c1, c2, _⟩ := old q1 hh
    exact ⟨i, o0, c1, c2, q2⟩
  -- what was no argument's own
  have notown : ∀ {i : Nat} {o : O} {a : Addr}, st[i]? = some (some o) → held o = true → σ[i]? = some (some (.ref a)) → i ∉ lent rs st → ¬ Own' a := by
    intro i o a q hh qa hi z
    rcases ow' a z with z | z
    · obtain ⟨j, p, xs, q1, q2⟩ := z
      obtain ⟨o1, e1, z1⟩ := map_at q1
      cases z1
      obtain ⟨v2, e2, z2⟩ := map_at q2
      cases z2
      obtain ⟨r, er, ar⟩ := f j _ e1
      obtain ⟨v, ev, rr⟩ := ra.at er
      rw [e2] at ev; cases ev
      rcases argO_l ar with ⟨_, q', rfl⟩ | ⟨_, n, q', rfl, z⟩
      · obtain ⟨b, ws, e3, _, _, _, nh⟩ := rr
        cases e3
        exact nh (.inl ⟨i, o, q, hh, qa⟩)
      · have := k.inj n i _ _ _ a z q hh rr.1 qa
        subst this
        exact hi (lent_mem er z)
    · exact k.apt a z.hel ⟨i, o, q, hh, qa⟩
  -- an argument's own list: where it comes back
  have isarg : ∀ {i : Nat} {a : Addr}, i ∈ lent rs st → σ[i]? = some (some (.ref a)) → ∃ (j : Nat) (zs : List D), os[j]? = some (.l true zs) ∧ vs[j]? = some (.ref a) := by
    intro i a hi q2
    obtain ⟨j, p', xs', a', b'⟩ := lent_of hi
    obtain ⟨w, d1, d2⟩ := ra.at a'
    have lj : j < os.length := by rw [l]; exact (List.getElem?_eq_some_iff.mp a').1
    obtain ⟨r', er', ar'⟩ := f j os[j] (List.getElem?_eq_getElem lj)
    rw [a'] at er'; cases er'
    have eo : os[j] = .l true xs' := by
      have : argO (.r i) st = some (.l true xs') := by simp only [argO, b']
      rw [this] at ar'
      exact (Option.some.inj ar').symm
    have d3 := d2.1
    rw [q2] at d3; cases d3
    exact ⟨j, xs', by rw [List.getElem?_eq_getElem lj, eo], d1⟩
  have rep2 : ∀ (i : Nat) (o : O), st2[i]? = some (some o) → ∃ w, σ[i]? = some (some w) ∧ Rep Hs' H' w o := by
    intro i o q
    by_cases hi : i ∈ lent rs st
    · obtain ⟨j, p, xs, a, b⟩ := lent_of hi
      obtain ⟨ys, c1, c2⟩ := b2 j i p xs a b (by rw [rp.len]; exact (List.getElem?_eq_some_iff.mp b).1)
      rw [q] at c2; cases c2
      obtain ⟨w, d1, d2⟩ := ra.at a
      have lj : j < os.length := by rw [l]; exact (List.getElem?_eq_some_iff.mp a).1
      obtain ⟨r', er', ar'⟩ := f j os[j] (List.getElem?_eq_getElem lj)
      rw [a] at er'; cases er'
      have eo : os[j] = .l true xs := by
        have : argO (.r i) st = some (.l true xs) := by simp only [argO, b]
        rw [this] at ar'
        exact (Option.some.inj ar').symm
      obtain ⟨ys', a', ws, g1, g2, g3, g4, g5⟩ := bk j xs (by rw [List.getElem?_eq_getElem lj, eo])
      rw [c1] at g1; cases g1
      rw [d1] at g2; cases g2
      exact ⟨_, d2.1, a', ws, rfl, g3, g4, g5⟩
    · rw [b1 i hi] at q
      cases o with
      | h M L =>
        obtain ⟨M0, z, c1, c2, c3⟩ := reg3 q
        obtain ⟨w, d1, d2⟩ := k.rep i _ z
        refine ⟨w, d1, c1, fun n hn => ?_⟩
        have ln := k.inL z n hn
        obtain ⟨y, e1, _⟩ := c2 n (M0[n]).1 (M0[n]).2 (List.getElem?_eq_getElem ln)
        exact (List.getElem?_eq_some_iff.mp e1).1
      | d x =>
        obtain ⟨w, d1, d2⟩ := k.rep i _ (nh1 q fun M L z => by cases z)
        exact ⟨w, d1, Sh.mono sub d2⟩
      | l p xs =>
        have q' := nh1 q fun M L z => by cases z
        obtain ⟨w, d1, d2⟩ := k.rep i _ q'
        refine ⟨w, d1, ?_⟩
        obtain ⟨a, ws, rfl, g1, g2, g3⟩ := d2
        have no := notown q' rfl d1 hi
        exact ⟨a, ws, rfl, keep a _ g1 no, ShA.mono sub g2, shr a g3 no (by rw [g1]; simp)⟩
      | k p xs =>
        have q' := nh1 q fun M L z => by cases z
        obtain ⟨w, d1, d2⟩ := k.rep i _ q'
        refine ⟨w, d1, ?_⟩
        obtain ⟨a, ws, rfl, g1, g2, g3⟩ := d2
        have no := notown q' rfl d1 hi
        exact ⟨a, ws, rfl, keep a _ g1 no, ShA.mono sub g2, shr a g3 no (by rw [g1]; simp)⟩
  -- an argument's own list is old, or fresh
  have ow0 : ∀ a, Own' a → Own σ st0 a ∨ H0 a = none := fun a z => by
    rcases ow' a z with z | z
    · rcases (ow a (.inl z)).2 with z | z
      · exact f0.own a (.inl z)
      · exact fa a z
    · exact f0.own a (.inr z)
  have own2 : ∀ a, Own σ st2 a → Own σ st0 a ∨ H0 a = none := fun a z => by
    rcases z with ⟨i, p, xs, q1, q2⟩ | ⟨i, M, L, n, x, q1, q2, hn⟩
    · obtain ⟨o0, c1, _, c3⟩ := old q1 rfl
      obtain ⟨p', xs', rfl⟩ := c3.mpr ⟨p, xs, rfl⟩
      exact f0.own a (.inl ⟨i, p', xs', c1, q2⟩)
    · obtain ⟨M0, z, c1, c2, c3⟩ := reg3 (reg2 q1)
      rcases c3 n a x q2 with ⟨y, w⟩ | ⟨_, w | w, _⟩
      · exact f0.own a (.inr ⟨i, M0, L, n, y, z, w, hn⟩)
      · exact ow0 a w
      · exact .inr (f0.dom a w)
  have nohel : ∀ a, HelS σ st2 a → (Own' a ∨ H a = none) → (∀ (j : Nat) (zs : List D), os[j]? = some (.l true zs) → vs[j]? ≠ some (.ref a)) → False := fun a ⟨i, o, q1, hh, q2⟩ g4 g5 => by
    obtain ⟨o0, c1, c2, _⟩ := old q1 hh
    rcases g4 with z | z
    · by_cases hi : i ∈ lent rs st
      · obtain ⟨j, zs, e1, e2⟩ := isarg hi q2
        exact g5 j zs e1 e2
      · exact notown c1 c2 q2 hi z
    · obtain ⟨⟨vs', h1⟩, _⟩ := k.own_at (.inl ⟨i, o0, c1, c2, q2⟩)
      rw [h1] at z; cases z
  refine ⟨⟨by rw [b0, rp.len]; exact k.len, sub2, rep2, fun i j p xs o a q1 q2 hh q3 q4 => ?_, fun a ⟨i, M, L, n, x, q1, q2⟩ w => ?_, fun i j M M' L L' q1 q2 => ?_⟩, ⟨f0.sub.trans sub, fun a o h n => ?_, fun a h => f0.dom a (dom a h), own2, fun a h n q => ?_, fun i p xs q => ?_, fun i xs q => ?_, fun i xs q => ?_, fun i o q => ?_, by rw [b0, rp.len]; exact f0.sz, fun i M L q => ?_, fun i M L q => ?_⟩, ?_, ?_⟩
  · obtain ⟨o1, c1, _, c3⟩ := old q1 rfl
    obtain ⟨p', xs', rfl⟩ := c3.mpr ⟨p, xs, rfl⟩
    obtain ⟨o2, d1, d2, _⟩ := old q2 hh
    exact k.inj i j _ _ _ a c1 d1 d2 q3 q4
  · obtain ⟨M0, z, c1, c2, c3⟩ := reg3 (reg2 q1)
    rcases c3 n a x q2 with ⟨y, w2⟩ | ⟨_, w2, w3⟩
    · exact k.apt a ⟨i, M0, L, n, y, z, w2⟩ (hel2 a w)
    · exact nohel a w w2 w3
  · obtain ⟨M0, z, _⟩ := reg3 (reg2 q1)
    obtain ⟨M1, z1, _⟩ := reg3 (reg2 q2)
    exact k.one i j _ _ _ _ z z1
  · refine keep a o (f0.keep a o h n) fun z => ?_
    rcases ow0 a z with z | z
    · exact n z
    · rw [z] at h; cases h
  · have q' : H a ≠ none := fun z => q (f0.dom a z)
    refine shr a (f0.shr a h n q) (fun z => ?_) q'
    rcases ow0 a z with z | z
    · exact n z
    · exact q z
  · by_cases hi : i ∈ lent rs st
    · obtain ⟨j, p', xs', a, b⟩ := lent_of hi
      obtain ⟨ys, c1, c2⟩ := b2 j i p' xs' a b (by rw [rp.len]; exact (List.getElem?_eq_some_iff.mp b).1)
      rw [q] at c2; cases c2
    · rw [b1 i hi] at q
      exact f0.kk i p xs (nh1 q fun M L z => by cases z)
  · obtain ⟨a, b⟩ := f0.kp i xs q
    refine ⟨?_, b⟩
    have hi : i ∉ lent rs st := fun hi => by
      obtain ⟨j, p', xs', _, z⟩ := lent_of hi
      rw [a] at z; cases z
    rw [b1 i hi, rp.same i fun M L z => by rw [a] at z; cases z]; exact a
  · obtain ⟨ys, a, b⟩ := f0.lp i xs q
    by_cases hi : i ∈ lent rs st
    · obtain ⟨j, p', xs', a', b'⟩ := lent_of hi
      rw [a] at b'; cases b'
      obtain ⟨zs, c1, c2⟩ := b2 j i _ _ a' a (by rw [rp.len]; exact (List.getElem?_eq_some_iff.mp a).1)
      exact ⟨zs, c2, b⟩
    · exact ⟨ys, by rw [b1 i hi, rp.same i fun M L z => by rw [a] at z; cases z]; exact a, b⟩
  · obtain ⟨o', a⟩ := f0.bd i o q
    by_cases hi : i ∈ lent rs st
    · obtain ⟨j, p', xs', a', b'⟩ := lent_of hi
      obtain ⟨zs, c1, c2⟩ := b2 j i _ _ a' b' (by rw [rp.len]; exact (List.getElem?_eq_some_iff.mp b').1)
      exact ⟨_, c2⟩
    · by_cases z : ∃ M L, st[i]? = some (some (.h M L))
      · obtain ⟨M, L, z⟩ := z
        obtain ⟨M', e1, _⟩ := rp.stay i M L z
        exact ⟨_, by rw [b1 i hi]; exact e1⟩
      · exact ⟨o', by rw [b1 i hi, rp.same i fun M L z2 => z ⟨M, L, z2⟩]; exact a⟩
  · obtain ⟨M1, e1, g1⟩ := f0.hp i M L q
    obtain ⟨M2, e2, _, g2, _⟩ := rp.stay i M1 L e1
    have hi : i ∉ lent rs st := fun hi => by
      obtain ⟨j, p', xs', _, z⟩ := lent_of hi
      rw [e1] at z; cases z
    refine ⟨M2, by rw [b1 i hi]; exact e2, fun n a x w => ?_⟩
    obtain ⟨y, w1, w2⟩ := g1 n a x w
    obtain ⟨y2, w3, w4⟩ := g2 n a y w1
    exact ⟨y2, w3, fun hn => (w4 hn).trans (w2 hn)⟩
  · obtain ⟨M0, z, c1, c2, c3⟩ := reg3 (reg2 q)
    obtain ⟨M1, e1, g1⟩ := f0.hq i M0 L z
    refine ⟨M1, e1, fun n a x w hn => ?_⟩
    rcases c3 n a x w with ⟨y, w2⟩ | ⟨ln, _, _⟩
    · exact g1 n a y w2 hn
    · exact absurd (k.inL z n hn) (by omega)
  · cases res with
    | d x => exact rs'
    | k p xs => exact rs'
    | h M L => exact rs'
    | l p xs =>
      obtain ⟨a, ws, e1, g1, g2, g3, g4, g5, g6⟩ := rs'
      refine ⟨a, ws, e1, g1, g2, g3, fun z => ?_⟩
      rcases z with z | ⟨i, M, L, n, x, q1, q2⟩
      · exact nohel a z g4 g5
      · exact g6 ⟨i, M, L, n, x, reg2 q1, q2⟩
  · intro a ha
    cases res with
    | d x => simp [tmp] at ha
    | k p xs => exact rs'.elim
    | h M L => exact rs'.elim
    | l p xs =>
      obtain ⟨b, ws, rfl, g1, g2, g3, g4, g5, g6⟩ := rs'
      have : a = b := by simpa [tmp] using ha
      subst this
      rcases g4 with z | z
      · exact ow0 a z
      · exact .inr (f0.dom a z)
/-- an argument's own list is no cell -/
theorem args_cell {rs : List R} {vs : List V} {os : List O} (k : Ok σ st Hs H) (ra : RA σ st Hs H rs vs) (e : args rs st = some os) (nd : (lent rs st).Nodup) {a : Addr} (h : OwnS (vs.map some) (os.map some) a) : ¬ HelH st a := fun z => by
  rcases ((args_ok k ra e nd).2 a (.inl h)).2 with w | w
  · exact k.apt a z w.hel
  · exact (tmps_at ra a w).2.2 (.inr z)
/-- behind a call -/
theorem call_ok {rs : List R} {vs : List V} {os : List O} {res : O} {fin : List (Option O)} {v : V} {st2 : St} (k : Ok σ st Hs H) (f0 : Fr σ st0 Hs0 H0 σ st Hs H) (ra : RA σ st Hs H rs vs) (fa : ∀ a ∈ tmps rs vs, Own σ st0 a ∨ H0 a = none)
    (e : args rs st = some os) (nd : (lent rs st).Nodup) (cp : CallPost vs os Hs H res fin v H' Hs') (eb : back st rs fin st = some st2) :
    Ok σ st2 Hs' H' ∧ Fr σ st0 Hs0 H0 σ st2 Hs' H' ∧ RRep σ st2 Hs' H' v (.v res) ∧ ∀ a ∈ tmp (.v res) v, Own σ st0 a ∨ H0 a = none := by
  obtain ⟨oa, ow⟩ := args_ok k ra e nd
  have nocell : ∀ a, HelH st a → ¬ Own (vs.map some) (os.map some) a := fun a z w => args_cell k ra e nd (ow a w).1 z
  refine call_gen (Own' := Own (vs.map some) (os.map some)) k f0 ra fa e nd cp.sub cp.sub2 (fun a z => .inl (ow a z).1) cp.keep cp.dom cp.shr cp.back ⟨rfl, fun _ _ => rfl, fun i M L q => ?_⟩ eb ?_
  · refine ⟨M, q, (k.rgn q).to cp.sub fun n a x z => ?_, fun n a x z => ⟨x, z, fun _ => rfl⟩, fun n a x z => .inl ⟨x, z⟩⟩
    have no := nocell a ⟨i, M, L, n, x, q, z⟩
    obtain ⟨h1, h2⟩ := (k.rgn q).at_ n a x z
    obtain ⟨o, h3⟩ := h2.there
    exact ⟨fun o h => cp.keep a o h no, cp.shr a h1 no (by rw [h3]; simp)⟩
  · have rs' := cp.res
    cases res with
    | d x => exact rs'
    | k p xs => exact rs'
    | h M L => exact rs'
    | l p xs =>
      obtain ⟨a, ws, e1, g1, g2, g3, g4, g5, g6⟩ := rs'
      refine ⟨a, ws, e1, g1, g2, g3, g4, g5, fun z => ?_⟩
      rcases g4 with w | w
      · exact nocell a z w
      · obtain ⟨⟨o, h1⟩, _⟩ := k.own_at (.inr z)
        rw [w] at h1; cases h1
/-- the sources of a loop are nobody's own while it runs -/
theorem items_frz {s : Src} {ds : List D} {Q : List D → Prop} (h : items s ds Q) : ∀ d ∈ ds, d.isFrz = false ∧ ∀ a, d ≠ .ref a := by
  unfold items at h
  split at h <;> first | exact h.elim | (intro d hd; simp only [List.mem_cons, List.not_mem_nil, or_false] at hd; first | (subst hd; exact ⟨rfl, fun a z => by cases z⟩) | (rcases hd with rfl | rfl <;> exact ⟨rfl, fun a z => by cases z⟩) | (rcases hd with rfl | rfl | rfl <;> exact ⟨rfl, fun a z => by cases z⟩))
theorem viewAll_at : ∀ {rs : List R} {ds : List D} {j : Nat} {r : R}, viewAll rs st = some ds → rs[j]? = some r → ∃ d ∈ ds, view r st = some d
  | [], _, j, r, _, e => by simp at e
  | r0 :: rs, ds, j, r, h, e => by
    simp only [viewAll] at h
    cases e1 : view r0 st with
    | none => rw [e1] at h; cases h
    | some x =>
      cases e2 : viewAll rs st with
      | none => rw [e1, e2] at h; cases h
      | some xs =>
        rw [e1, e2] at h
        cases h
        cases j with
        | zero => simp at e; subst e; exact ⟨x, List.mem_cons_self, e1⟩
        | succ j =>
          obtain ⟨d, a, b⟩ := viewAll_at (j := j) e2 (by simpa using e)
          exact ⟨d, List.mem_cons_of_mem _ a, b⟩
theorem src_free {rs : List R} {vs : List V} {a : Addr} {ds : List D} (k : Ok σ st Hs H) (ra : RA σ st Hs H rs vs) (hd : viewAll rs st = some ds) (nf : ∀ d ∈ ds, d.isFrz = false ∧ ∀ a, d ≠ .ref a) (hv : V.ref a ∈ vs) : ¬ Own σ (lk rs st) a := by
  obtain ⟨j, ej⟩ := List.getElem?_of_mem hv
  have lj : j < rs.length := by rw [ra.len]; exact (List.getElem?_eq_some_iff.mp ej).1
  have er : rs[j]? = some rs[j] := List.getElem?_eq_getElem lj
  generalize hr : rs[j] = r at er
  obtain ⟨v, ev, rr⟩ := ra.at er
  rw [ej] at ev; cases ev
  intro z
  have hs : Hs a = none ∧ (OwnS σ st a ∨ OwnH st a) ∧ (∀ (i : Nat) (p : Bool) (xs : List D), st[i]? = some (some (.l p xs)) → σ[i]? = some (some (.ref a)) → i ∉ lent rs st) ∧ ∀ (i : Nat) (M : List (Addr × D)) (L : List Nat) (n : Nat) (x : D), st[i]? = some (some (.h M L)) → M[n]? = some (a, x) → (i, n) ∉ cellsOf rs := by
    rcases z with ⟨i, p, xs, q1, q2⟩ | ⟨i, M, L, n, x, q1, q2, hn⟩
    · have q3 := lockCs_slot q1 (fun M L z => by cases z)
      have q0 : st[i]? = some (some (.l p xs)) ∧ i ∉ lent rs st := by
        rcases lock_cases q3 with ⟨q, n⟩ | ⟨_, p', xs', q, z⟩
        · exact ⟨q, fun hi => n hi p xs rfl⟩
        · cases z
      refine ⟨(k.own_at (.inl ⟨i, _, q0.1, rfl, q2⟩)).2, .inl ⟨i, p, xs, q0.1, q2⟩, fun i' p' xs' e1 e2 => ?_, fun i' M L n x e1 e2 => ?_⟩
      · have := k.inj i i' _ _ _ a q0.1 e1 rfl q2 e2
        subst this
        exact q0.2
      · exact absurd ⟨i, _, q0.1, rfl, q2⟩ (k.apt a ⟨i', M, L, n, x, e1, e2⟩)
    · obtain ⟨L0, q0, g1, g2⟩ := lockCs_reg q1
      have q0 := lock_h.mp q0
      refine ⟨(k.own_at (.inr ⟨i, M, L0, n, x, q0, q2⟩)).2, .inr ⟨i, M, L0, n, x, q0, q2, fun z => hn (g1 n z)⟩, fun i' p' xs' e1 e2 => ?_, fun i' M' L' n' x' e1 e2 hc => ?_⟩
      · exact absurd ⟨i', _, e1, rfl, e2⟩ (k.apt a ⟨i, M, L0, n, x, q0, q2⟩)
      · have := k.one i i' _ _ _ _ q0 e1
        subst this
        rw [q0] at e1; cases e1
        have := (k.rgn q0).uniq n n' a x x' q2 e2
        subst this
        exact hn (g2 (i, n) hc rfl)
  obtain ⟨hs, hel, nol, noc⟩ := hs
  have hel' : Hel σ st a := Own.hel hel
  have cmem : ∀ {rs : List R} {j i n : Nat} {b : Addr}, rs[j]? = some (.c i b n) → (i, n) ∈ cellsOf rs := by
    intro rs
    induction rs with
    | nil => intro j i n b e; simp at e
    | cons r0 rs ih =>
      intro j i n b e
      cases j with
      | zero => simp at e; subst e; exact List.mem_cons_self
      | succ j =>
        have := ih (j := j) (by simpa using e)
        cases r0 with
        | v o => exact this
        | r i => exact this
        | c i b n => exact List.mem_cons_of_mem _ this
  have shd : ∀ {x : D}, x.isFrz = false → x ≠ .ref a → Sh Hs x (.ref a) → False := by
    intro x nf nr h
    cases x with
    | lst ys => obtain ⟨b, ws, e, h1, _⟩ := h; cases e; rw [hs] at h1; cases h1
    | tup ys => obtain ⟨b, ws, e, h1, _⟩ := h; cases e; rw [hs] at h1; cases h1
    | dcK ys zs => obtain ⟨b, ws, e, h1, _⟩ := h; cases e; rw [hs] at h1; cases h1
    | dcT ys zs => obtain ⟨b, ws, e, h1, _⟩ := h; cases e; rw [hs] at h1; cases h1
    | frz ys => cases nf
    | xcp a b c d => cases nf
    | ref b => cases (show V.ref a = V.ref b from h); exact nr rfl
    | obj a b c => exact h
    | _ => cases h
  cases r with
  | c i b n =>
    obtain ⟨e, M, L, x, q, r⟩ := rr
    cases e
    exact noc i M L n x q r (cmem er)
  | v o =>
    cases o with
    | d x =>
      obtain ⟨d, m, e⟩ := viewAll_at hd er
      cases e
      exact shd (nf _ m).1 ((nf _ m).2 a) rr
    | k p xs => exact rr
    | h M L => exact rr
    | l p' ys =>
      obtain ⟨b, ws, e, _, _, _, nh⟩ := rr
      cases e
      exact nh hel'
  | r n =>
    obtain ⟨e1, o, q⟩ := rr
    cases o with
    | d x =>
      obtain ⟨w, e2, rp⟩ := k.rep n _ q
      rw [e1] at e2; cases e2
      obtain ⟨d, m, e⟩ := viewAll_at hd er
      simp only [view, q] at e
      cases e
      exact shd (nf _ m).1 ((nf _ m).2 a) rp
    | h M L =>
      obtain ⟨d, m, e⟩ := viewAll_at hd er
      simp only [view, q] at e
      cases e
    | l p' ys => exact nol n p' ys q e1 (lent_mem er q)
    | k p' ys =>
      rcases hel with ⟨i, p, xs, q1, q2⟩ | z
      · have := k.inj i n _ _ _ a q1 q rfl q2 e1
        subst this
        rw [q1] at q; cases q
      · exact k.apt a z.hel ⟨n, _, q, rfl, e1⟩
end
end Itp

namespace Itp
variable [KF]
open PySem PySem.Spec PyProof.Rows
open L2 (V Hp HO upd upd_same upd_ne ne_of ne_of_none Same Cx Inv OpR CallR MtR IxR SlR PSet TruR Room RelV EP VK SqL SqT Dp DpAll It TI TE TA TT TG TGs TS TO PI PE PT PW PA PG PGs PS PSs PO PTs PIE thn Turn FpOk Itl Itt Its Itr Itc Itv Ite Itz Gl Vis Loc Sp FnOk Binds Ends)
section
variable {σ σ0 σ1 σ2 : L2.St} {st st0 st1 st2 : St} {Hs H Hs0 H0 Hs1 H1 Hs2 H2 : Hp}
/-! ### a block's own slots forgotten, and back again -/
theorem wipe_len (L : List Nat) (s : St) : (wipe s L).length = s.length := by
  induction L with
  | nil => rfl
  | cons v L ih => unfold wipe; simpa using ih
theorem wipe_at : ∀ (L : List Nat) (s : St) (j : Nat), (wipe s L)[j]? = if j ∈ L then s[j]?.map (fun _ => none) else s[j]?
  | [], s, j => by simp [wipe]
  | v :: L, s, j => by
    unfold wipe
    rw [List.getElem?_set, wipe_at L s j]
    by_cases h : v = j
    · subst h
      rw [if_pos rfl, if_pos List.mem_cons_self]
      have hl : (wipe s L).length = s.length := wipe_len L s
      by_cases hv : v < s.length
      · rw [if_pos (by omega), List.getElem?_eq_getElem hv]; rfl
      · rw [if_neg (by omega), List.getElem?_eq_none (by omega)]; rfl
    · rw [if_neg h]
      simp [List.mem_cons, Ne.symm h]
theorem wipeV_at : ∀ (L : List Nat) (s : L2.St) (j : Nat), (L2.wipe s L)[j]? = if j ∈ L then s[j]?.map (fun _ => none) else s[j]?
  | [], s, j => by simp [L2.wipe]
  | v :: L, s, j => by
    unfold L2.wipe
    rw [List.getElem?_set, wipeV_at L s j]
    by_cases h : v = j
    · subst h
      rw [if_pos rfl, if_pos List.mem_cons_self]
      have hl : (L2.wipe s L).length = s.length := L2.wipe_length s L
      by_cases hv : v < s.length
      · rw [if_pos (by omega), List.getElem?_eq_getElem hv]; rfl
      · rw [if_neg (by omega), List.getElem?_eq_none (by omega)]; rfl
    · rw [if_neg h]
      simp [List.mem_cons, Ne.symm h]
theorem mend_len (s0 : St) (L : List Nat) (s : St) : (mend s0 s L).length = s.length := by
  induction L with
  | nil => rfl
  | cons v L ih => unfold mend; simpa using ih
theorem mend_at (s0 : St) : ∀ (L : List Nat) (s : St) (j : Nat), (mend s0 s L)[j]? = if j ∈ L then s[j]?.map (fun _ => s0[j]?.join) else s[j]?
  | [], s, j => by simp [mend]
  | v :: L, s, j => by
    unfold mend
    rw [List.getElem?_set, mend_at s0 L s j]
    by_cases h : v = j
    · subst h
      rw [if_pos rfl, if_pos List.mem_cons_self]
      have hl := mend_len s0 L s
      by_cases hv : v < s.length
      · rw [if_pos (by omega), List.getElem?_eq_getElem hv]; rfl
      · rw [if_neg (by omega), List.getElem?_eq_none (l := s) (by omega)]; rfl
    · rw [if_neg h]
      simp [List.mem_cons, Ne.symm h]
theorem wipe_some {L : List Nat} {s : St} {j : Nat} {o : O} (h : (wipe s L)[j]? = some (some o)) : s[j]? = some (some o) ∧ j ∉ L := by
  rw [wipe_at] at h
  split at h
  · cases e : s[j]? with
    | none => rw [e] at h; cases h
    | some x => rw [e] at h; cases h
  · exact ⟨h, by assumption⟩
theorem wipeV_some {L : List Nat} {s : L2.St} {j : Nat} {o : V} (h : (L2.wipe s L)[j]? = some (some o)) : s[j]? = some (some o) ∧ j ∉ L := by
  rw [wipeV_at] at h
  split at h
  · cases e : s[j]? with
    | none => rw [e] at h; cases h
    | some x => rw [e] at h; cases h
  · exact ⟨h, by assumption⟩
theorem wipeV_out {L : List Nat} {s : L2.St} {j : Nat} (h : j ∉ L) : (L2.wipe s L)[j]? = s[j]? := by rw [wipeV_at, if_neg h]
theorem wipe_out {L : List Nat} {s : St} {j : Nat} (h : j ∉ L) : (wipe s L)[j]? = s[j]? := by rw [wipe_at, if_neg h]
theorem Ok.wipe (k : Ok σ st Hs H) (L : List Nat) : Ok (L2.wipe σ L) (wipe st L) Hs H := by
  refine ⟨by rw [wipe_len, L2.wipe_length]; exact k.len, k.sub, fun i o q => ?_, fun i j p xs o a q1 q2 hh q3 q4 => ?_, fun a ⟨i, M, N, n, x, q1, q2⟩ ⟨j, o, q3, hh, q4⟩ => k.apt a ⟨i, M, N, n, x, (wipe_some q1).1, q2⟩ ⟨j, o, (wipe_some q3).1, hh, (wipeV_some q4).1⟩, fun i j M M' N N' q1 q2 => k.one i j M M' N N' (wipe_some q1).1 (wipe_some q2).1⟩
  · obtain ⟨q, n⟩ := wipe_some q
    obtain ⟨v, e, r⟩ := k.rep i o q
    exact ⟨v, by rw [wipeV_out n]; exact e, r⟩
  · exact k.inj i j p xs o a (wipe_some q1).1 (wipe_some q2).1 hh (wipeV_some q3).1 (wipeV_some q4).1
/-- behind a block's turn -/
theorem mend_ok {L : List Nat} {s0 : St} (k : Ok σ st Hs H) (h0 : ∀ j ∈ L, st[j]?.join = s0[j]?.join) (f : Fr (L2.wipe σ L) (wipe st L) Hs H σ2 st2 Hs2 H2) (k2 : Ok σ2 st2 Hs2 H2) (eq : ∀ j, j ∉ L → σ2[j]? = (L2.wipe σ L)[j]?) :
    Ok σ (mend s0 st2 L) Hs2 H2 ∧ Fr σ st Hs H σ (mend s0 st2 L) Hs2 H2 ∧ (∀ j ∈ L, (mend s0 st2 L)[j]?.join = s0[j]?.join) := by
  have ln : st2.length = st.length := by rw [f.sz, wipe_len]
  -- what stands in a slot behind it
  have at_ : ∀ {j : Nat} {o : O}, (mend s0 st2 L)[j]? = some (some o) → (j ∈ L ∧ st[j]? = some (some o)) ∨ (j ∉ L ∧ st2[j]? = some (some o) ∧ σ2[j]? = σ[j]?) := by
    intro j o h
    rw [mend_at] at h
    split at h
    · rename_i hj
      refine .inl ⟨hj, ?_⟩
      cases e : st2[j]? with
      | none => rw [e] at h; cases h
      | some x =>
        rw [e] at h
        simp only [Option.map_some, Option.some.injEq] at h
        have h1 := h0 j hj
        rw [h] at h1
        cases e2 : st[j]? with
        | none => rw [e2] at h1; cases h1
        | some y => rw [e2] at h1; simp only [Option.join_some] at h1; rw [h1]
    · rename_i hj
      exact .inr ⟨hj, h, (eq j hj).trans (wipeV_out hj)⟩
  have ownW : ∀ a, Own (L2.wipe σ L) (Itp.wipe st L) a → (∃ i p xs, i ∉ L ∧ st[i]? = some (some (.l p xs)) ∧ σ[i]? = some (some (.ref a))) ∨ ∃ i M N n x, i ∉ L ∧ st[i]? = some (some (.h M N)) ∧ M[n]? = some (a, x) ∧ n ∉ N := fun a z => by
    rcases z with ⟨i, p, xs, q1, q2⟩ | ⟨i, M, N, n, x, q1, q2, hn⟩
    · exact .inl ⟨i, p, xs, (wipe_some q1).2, (wipe_some q1).1, (wipeV_some q2).1⟩
    · exact .inr ⟨i, M, N, n, x, (wipe_some q1).2, (wipe_some q1).1, q2, hn⟩
  have ownW' : ∀ a, Own (L2.wipe σ L) (Itp.wipe st L) a → Own σ st a := fun a h => by
    rcases ownW a h with ⟨i, p, xs, _, q1, q2⟩ | ⟨i, M, N, n, x, _, q1, q2, hn⟩
    · exact .inl ⟨i, p, xs, q1, q2⟩
    · exact .inr ⟨i, M, N, n, x, q1, q2, hn⟩
  have helW : ∀ a, HelS (L2.wipe σ L) (Itp.wipe st L) a → ∃ i o, i ∉ L ∧ st[i]? = some (some o) ∧ held o = true ∧ σ[i]? = some (some (.ref a)) := fun a ⟨i, o, q1, hh, q2⟩ =>
    ⟨i, o, (wipe_some q1).2, (wipe_some q1).1, hh, (wipeV_some q2).1⟩
  -- an own slot's list is nobody's within
  have free : ∀ {j : Nat} {o : O} {a : Addr}, j ∈ L → st[j]? = some (some o) → held o = true → σ[j]? = some (some (.ref a)) → ¬ Own (L2.wipe σ L) (Itp.wipe st L) a := by
    intro j o a hj q hh qa z
    rcases ownW a z with ⟨i, p, xs, ni, q1, q2⟩ | ⟨i, M, N, n, x, _, q1, q2, _⟩
    · have := k.inj i j p xs o a q1 q hh q2 qa
      subst this
      exact ni hj
    · exact k.apt a ⟨i, M, N, n, x, q1, q2⟩ ⟨j, o, q, hh, qa⟩
  have freeH : ∀ {j n : Nat} {M : List (Addr × D)} {N : List Nat} {x : D} {a : Addr}, j ∈ L → st[j]? = some (some (.h M N)) → M[n]? = some (a, x) → ¬ Own (L2.wipe σ L) (Itp.wipe st L) a := by
    intro j n M N x a hj q e z
    rcases ownW a z with ⟨i, p, xs, ni, q1, q2⟩ | ⟨i, M', N', n', x', ni, q1, q2, _⟩
    · exact k.apt a ⟨j, M, N, n, x, q, e⟩ ⟨i, _, q1, rfl, q2⟩
    · have := k.one i j _ _ _ _ q1 q
      subst this
      exact ni hj
  refine ⟨⟨by rw [mend_len, ln]; exact k.len, k2.sub, fun j o q => ?_, fun i j p xs o a q1 q2 hh q3 q4 => ?_, fun a ⟨i, M, N, n, x, q1, q2⟩ ⟨j, o, q3, hh, q4⟩ => ?_, fun i j M M' N N' q1 q2 => ?_⟩, ⟨f.sub, fun a o h n => f.keep a o h fun z => n (ownW' a z), f.dom, fun a z => ?_, fun a h n e => f.shr a h (fun z => n (ownW' a z)) e, fun i p xs q => ⟨?_, rfl⟩, fun i xs q => ⟨?_, rfl⟩, fun i xs q => ?_, fun i o q => ?_, by rw [mend_len, ln], fun i M N q => ?_, fun i M N q => ?_⟩, fun j hj => ?_⟩
  · rcases at_ q with ⟨hj, q⟩ | ⟨hj, q, es⟩
    · obtain ⟨v, e, r⟩ := k.rep j o q
      refine ⟨v, e, ?_⟩
      cases o with
      | d x => exact Sh.mono f.sub r
      | l p xs =>
        obtain ⟨a, ws, rfl, g1, g2, g3⟩ := r
        have no := free hj q rfl e
        exact ⟨a, ws, rfl, f.keep a _ g1 no, ShA.mono f.sub g2, f.shr a g3 no (by rw [g1]; simp)⟩
      | k p xs =>
        obtain ⟨a, ws, rfl, g1, g2, g3⟩ := r
        have no := free hj q rfl e
        exact ⟨a, ws, rfl, f.keep a _ g1 no, ShA.mono f.sub g2, f.shr a g3 no (by rw [g1]; simp)⟩
      | h M N =>
        refine ⟨r.1.to f.sub fun n a x e4 => ?_, r.2⟩
        obtain ⟨g1, g2⟩ := r.1.at_ n a x e4
        obtain ⟨ob, g3⟩ := g2.there
        have no := freeH hj q e4
        exact ⟨fun o z => f.keep a o z no, f.shr a g1 no (by rw [g3]; simp)⟩
    · obtain ⟨v, e, r⟩ := k2.rep j o q
      exact ⟨v, by rw [← es]; exact e, r⟩
  · rcases at_ q1 with ⟨h1, q1⟩ | ⟨h1, q1, e1⟩
    · rcases at_ q2 with ⟨h2, q2⟩ | ⟨h2, q2, e2⟩
      · exact k.inj i j p xs o a q1 q2 hh q3 q4
      · rcases f.held q2 hh (a := a) (by rw [e2]; exact q4) with (z | z) | z
        · obtain ⟨j', o', n', w1, w2, w3⟩ := helW a z
          have := k.inj i j' p xs o' a q1 w1 w2 q3 w3
          subst this
          exact absurd h1 n'
        · obtain ⟨i', M, N, n, x, w1, w2⟩ := z
          exact absurd ⟨i, _, q1, rfl, q3⟩ (k.apt a ⟨i', M, N, n, x, (wipe_some w1).1, w2⟩)
        · obtain ⟨⟨ws, g⟩, _⟩ := k.own_at (.inl ⟨i, _, q1, rfl, q3⟩)
          rw [g] at z; cases z
    · have q3' : σ2[i]? = some (some (.ref a)) := by rw [e1]; exact q3
      rcases at_ q2 with ⟨h2, q2⟩ | ⟨h2, q2, e2⟩
      · rcases f.own a (.inl ⟨i, p, xs, q1, q3'⟩) with z | z
        · exact absurd z (free h2 q2 hh q4)
        · obtain ⟨⟨ws, g⟩, _⟩ := k.own_at (.inl ⟨j, _, q2, hh, q4⟩)
          rw [g] at z; cases z
      · exact k2.inj i j p xs o a q1 q2 hh q3' (by rw [e2]; exact q4)
  · rcases at_ q1 with ⟨h1, q1⟩ | ⟨h1, q1, e1⟩
    · rcases at_ q3 with ⟨h2, q3⟩ | ⟨h2, q3, e2⟩
      · exact k.apt a ⟨i, M, N, n, x, q1, q2⟩ ⟨j, o, q3, hh, q4⟩
      · rcases f.held q3 hh (a := a) (by rw [e2]; exact q4) with (z | z) | z
        · obtain ⟨j', o', n', w1, w2, w3⟩ := helW a z
          exact k.apt a ⟨i, M, N, n, x, q1, q2⟩ ⟨j', o', w1, w2, w3⟩
        · obtain ⟨i', M', N', n', x', w1, w2⟩ := z
          have := k.one i i' _ _ _ _ q1 (wipe_some w1).1
          subst this
          exact (wipe_some w1).2 h1
        · obtain ⟨⟨ws, g⟩, _⟩ := k.own_at (.inr ⟨i, M, N, n, x, q1, q2⟩)
          rw [g] at z; cases z
    · rcases at_ q3 with ⟨h2, q3⟩ | ⟨h2, q3, e2⟩
      · by_cases hn : n ∈ N
        · obtain ⟨M', c1, c2⟩ := f.hq i M N q1
          obtain ⟨y, c3⟩ := c2 n a x q2 hn
          exact k.apt a ⟨i, M', N, n, y, (wipe_some c1).1, c3⟩ ⟨j, o, q3, hh, q4⟩
        · rcases f.own a (.inr ⟨i, M, N, n, x, q1, q2, hn⟩) with z | z
          · exact free h2 q3 hh q4 z
          · obtain ⟨⟨ws, g⟩, _⟩ := k.own_at (.inl ⟨j, _, q3, hh, q4⟩)
            rw [g] at z; cases z
      · exact k2.apt a ⟨i, M, N, n, x, q1, q2⟩ ⟨j, o, q3, hh, by rw [e2]; exact q4⟩
  · have back : ∀ {i : Nat} {M : List (Addr × D)} {N : List Nat}, (mend s0 st2 L)[i]? = some (some (.h M N)) → ∃ M0, st[i]? = some (some (.h M0 N)) := fun {i M N} q => by
      rcases at_ q with ⟨_, q⟩ | ⟨_, q, _⟩
      · exact ⟨M, q⟩
      · obtain ⟨M', c1, _⟩ := f.hq i M N q
        exact ⟨M', (wipe_some c1).1⟩
    obtain ⟨M0, c1⟩ := back q1
    obtain ⟨M1, c2⟩ := back q2
    exact k.one i j _ _ _ _ c1 c2
  · rcases z with ⟨i, p, xs, q1, q2⟩ | ⟨i, M, N, n, x, q1, q2, hn⟩
    · rcases at_ q1 with ⟨h1, q1⟩ | ⟨h1, q1, e1⟩
      · exact .inl (.inl ⟨i, p, xs, q1, q2⟩)
      · rcases f.own a (.inl ⟨i, p, xs, q1, by rw [e1]; exact q2⟩) with z | z
        · exact .inl (ownW' a z)
        · exact .inr z
    · rcases at_ q1 with ⟨h1, q1⟩ | ⟨h1, q1, e1⟩
      · exact .inl (.inr ⟨i, M, N, n, x, q1, q2, hn⟩)
      · rcases f.own a (.inr ⟨i, M, N, n, x, q1, q2, hn⟩) with z | z
        · exact .inl (ownW' a z)
        · exact .inr z
  · rcases at_ q with ⟨h1, q⟩ | ⟨h1, q, e1⟩
    · exact q
    · exact (wipe_some (f.kk i p xs q).1).1
  · by_cases hi : i ∈ L
    · rw [mend_at, if_pos hi]
      have hl : i < st2.length := by rw [ln]; exact (List.getElem?_eq_some_iff.mp q).1
      rw [List.getElem?_eq_getElem hl]
      have := h0 i hi
      rw [q] at this
      simp only [Option.join_some] at this
      simp [← this]
    · rw [mend_at, if_neg hi]
      exact (f.kp i xs (by rw [wipe_out hi]; exact q)).1
  · by_cases hi : i ∈ L
    · refine ⟨xs, ?_, rfl⟩
      rw [mend_at, if_pos hi]
      have hl : i < st2.length := by rw [ln]; exact (List.getElem?_eq_some_iff.mp q).1
      rw [List.getElem?_eq_getElem hl]
      have := h0 i hi
      rw [q] at this
      simp only [Option.join_some] at this
      simp [← this]
    · obtain ⟨ys, a, _⟩ := f.lp i xs (by rw [wipe_out hi]; exact q)
      exact ⟨ys, by rw [mend_at, if_neg hi]; exact a, rfl⟩
  · by_cases hi : i ∈ L
    · refine ⟨o, ?_⟩
      rw [mend_at, if_pos hi]
      have hl : i < st2.length := by rw [ln]; exact (List.getElem?_eq_some_iff.mp q).1
      rw [List.getElem?_eq_getElem hl]
      have := h0 i hi
      rw [q] at this
      simp only [Option.join_some] at this
      simp [← this]
    · obtain ⟨o', a⟩ := f.bd i o (by rw [wipe_out hi]; exact q)
      exact ⟨o', by rw [mend_at, if_neg hi]; exact a⟩
  · by_cases hi : i ∈ L
    · refine ⟨M, ?_, fun _ _ x e => ⟨x, e, fun _ => rfl⟩⟩
      rw [mend_at, if_pos hi]
      have hl : i < st2.length := by rw [ln]; exact (List.getElem?_eq_some_iff.mp q).1
      rw [List.getElem?_eq_getElem hl]
      have := h0 i hi
      rw [q] at this
      simp only [Option.join_some] at this
      simp [← this]
    · obtain ⟨M', a, b⟩ := f.hp i M N (by rw [wipe_out hi]; exact q)
      exact ⟨M', by rw [mend_at, if_neg hi]; exact a, b⟩
  · rcases at_ q with ⟨h1, q⟩ | ⟨h1, q, e1⟩
    · exact ⟨M, q, fun _ _ x e _ => ⟨x, e⟩⟩
    · obtain ⟨M', c1, c2⟩ := f.hq i M N q
      exact ⟨M', (wipe_some c1).1, c2⟩
  · rw [mend_at, if_pos hj]
    by_cases hl : j < st2.length
    · rw [List.getElem?_eq_getElem hl]; rfl
    · rw [List.getElem?_eq_none (l := st2) (by omega)]
      have h1 := h0 j hj
      rw [List.getElem?_eq_none (l := st) (by omega)] at h1
      exact h1
/-! ### targets -/
theorem put_len {i : Nat} {o : O} (h : put i o st = some st1) : st1 = st.set i (some o) := by
  unfold put at h
  split at h <;> first | (cases h; rfl) | cases h
end
def TrG (t : Tg) : TG := fun v σ H Q => ∃ st Hs x st', Ok σ st Hs H ∧ Sh Hs x v ∧ setTg t x st = some st' ∧ ∀ σ', Ok σ' st' Hs H → Fr σ st Hs H σ' st' Hs H → (∀ j, j ∉ slots t → σ'[j]? = σ[j]?) → Q σ' H
def TrGs (t : Tg) : TGs := fun vs σ H Q => ∃ st Hs xs st', Ok σ st Hs H ∧ ShA Hs xs vs ∧ setTgs t xs st = some st' ∧ ∀ σ', Ok σ' st' Hs H → Fr σ st Hs H σ' st' Hs H → (∀ j, j ∉ slots t → σ'[j]? = σ[j]?) → Q σ' H
theorem PG.imp {X : Cx} {e : Expr} {t t' : TG} (h : PG X e t) (i : ∀ v σ H Q, t' v σ H Q → t v σ H Q) : PG X e t' := ⟨fun pins s σ H v u Q I r q => h.run pins s σ H v u Q I r (i _ _ _ _ q)⟩
theorem PG.or {X : Cx} {e : Expr} {t t' : TG} (h : PG X e t) (h' : PG X e t') : PG X e (fun v σ H Q => t v σ H Q ∨ t' v σ H Q) := ⟨fun pins s σ H v u Q I r q => by
  rcases q with q | q
  · exact h.run pins s σ H v u Q I r q
  · exact h'.run pins s σ H v u Q I r q⟩
theorem PGs.imp {X : Cx} {e : List Expr} {t t' : TGs} (h : PGs X e t) (i : ∀ v σ H Q, t' v σ H Q → t v σ H Q) : PGs X e t' := ⟨fun pins s σ H v u Q I r q => h.run pins s σ H v u Q I r (i _ _ _ _ q)⟩
theorem aE_len : ∀ (es : List Expr) (env : Env), (assignEach es env).length = es.length
  | [], _ => rfl
  | e :: es, env => by
    have ih := aE_len es env
    cases e <;> (show (assignEach es env).length + 1 = es.length + 1; rw [ih])
theorem aE_cons {e : Expr} {es : List Expr} {env : Env} (h : ∀ x p, e ≠ .Starred x p) : assignEach (e :: es) env = (false, assign e env) :: assignEach es env := by
  cases e with
  | Starred x p => exact absurd rfl (h x p)
  | _ => rfl
theorem aE_map {e : Expr} {es : List Expr} {env : Env} (h : ∀ x p, e ≠ .Starred x p) : (assignEach (e :: es) env).map (·.2) = assign e env :: (assignEach es env).map (·.2) := by
  rw [aE_cons h]; rfl
section
variable {T : Tab} {k : Nat} {gs : Gs} {N : List Str} {sc : Scope} {X : Cx} {Y : XP}
theorem loc_of {x : Str} (h : isLoc sc x = true) : sc.names.lookup x = some .local ∨ sc.names.lookup x = some .cell := by
  unfold isLoc at h
  split at h
  · exact .inl (by assumption)
  · exact .inr (by assumption)
  · cases h
theorem pg_ok {lsc : Scope} (g : Gd T k gs N sc X Y) (hl : ∀ x, Loc lsc x → Loc sc x ∧ (X.fn x = true ∨ sc.names.lookup x = some .local)) : ∀ (n : Nat) (e : Expr) (t : Tg), compTg N lsc n e = some t → PG X e (TrG t)
  | 0, e, t, h => by simp [compTg] at h
  | n + 1, e, t, h => by
    have all : ∀ (es : List Expr) (t : Tg), compTg.compTgs (compTg N lsc n) es = some t → PGs X es (TrGs t) ∧ ∀ env, (assignEach es env).findIdx? (·.1) = none := by
      intro es
      induction es with
      | nil =>
        intro t h
        simp only [compTg.compTgs, Option.some.injEq] at h
        subst h
        refine ⟨PGs.imp L2.pgs_nil fun vs σ H Q q => ?_, fun env => rfl⟩
        obtain ⟨st, Hs, xs, st', ok, sh, e, q⟩ := q
        cases xs with
        | nil =>
          simp only [setTgs, Option.some.injEq] at e
          subst e
          exact ⟨sh, q σ ok Fr.refl fun _ _ => rfl⟩
        | cons x xs => simp [setTgs] at e
      | cons e es ih =>
        intro t h
        have ns : ∀ x p, e ≠ .Starred x p := fun x p z => by subst z; simp [compTg.compTgs] at h
        have h' : (match compTg N lsc n e, compTg.compTgs (compTg N lsc n) es with | some a, some b => some (Tg.cons a b) | _, _ => none) = some t := by
          rw [← h]
          cases e with
          | Starred x p => exact absurd rfl (ns x p)
          | _ => rfl
        cases e1 : compTg N lsc n e with
        | none => rw [e1] at h'; cases h'
        | some a =>
          cases e2 : compTg.compTgs (compTg N lsc n) es with
          | none => rw [e1, e2] at h'; cases h'
          | some b =>
            rw [e1, e2] at h'
            cases h'
            obtain ⟨i1, i2⟩ := ih b e2
            refine ⟨PGs.imp (L2.pgs_cons (pg_ok g hl n e a e1) i1 (aE_map ns)) fun vs σ H Q q => ?_, fun env => ?_⟩
            · obtain ⟨st, Hs, xs, st', ok, sh, e, q⟩ := q
              cases xs with
              | nil => simp [setTgs] at e
              | cons x xs =>
                obtain ⟨v, ws, rfl, s1, s2⟩ := sh
                simp only [setTgs] at e
                cases e3 : setTg a x st with
                | none => rw [e3] at e; cases e
                | some st1 =>
                  rw [e3] at e
                  simp only at e
                  refine ⟨v, ws, rfl, st, Hs, x, st1, ok, s1, e3, fun σ1 ok1 f1 n1 => ?_⟩
                  refine ⟨st1, Hs, xs, st', ok1, s2, e, fun σ2 ok2 f2 n2 => ?_⟩
                  refine q σ2 ok2 (f1.trans f2) fun j hj => ?_
                  simp only [slots, List.mem_append, not_or] at hj
                  exact (n2 j hj.2).trans (n1 j hj.1)
            · rw [aE_cons ns, List.findIdx?_cons]
              simp [i2 env]
    unfold compTg at h
    split at h
    · rename_i x p
      split at h
      · rename_i hlc
        simp only [Option.map_eq_some_iff] at h
        obtain ⟨i, hi, rfl⟩ := h
        have lc := hl x (loc_of hlc)
        refine PG.imp (L2.pg_name (i := i) (by rw [g.eqN]; exact g.nd) (by rw [g.eqN]; exact ixOf_at hi) (by rw [g.eqS]; exact lc.1) (by rw [g.eqS]; exact lc.2)) fun v σ H Q q => ?_
        obtain ⟨st, Hs, y, st', ok, sh, e, q⟩ := q
        obtain ⟨k1, f1, _⟩ := put_ok (v := v) ok Fr.refl (show RRep σ st Hs H v (.v (.d y)) from sh) (fun a ha => by simp [tmp] at ha) e
        refine q _ k1 f1 fun j hj => ?_
        rw [List.getElem?_set_ne]
        intro z
        apply hj
        simp [slots, z]
      · cases h
    · rename_i es k p
      simp only [Option.map_eq_some_iff] at h
      obtain ⟨t', h', rfl⟩ := h
      obtain ⟨i1, i2⟩ := all es t' h'
      have both := PG.or (L2.pg_tup (k := k) (pos := p) (n := es.length) g.calm i1 (aE_len es _) (i2 _)) (L2.pg_unl (k := k) (pos := p) (n := es.length) g.calm i1 (aE_len es _) (i2 _))
      refine PG.imp both fun v σ H Q q => ?_
      obtain ⟨st, Hs, y, st', ok, sh, e, q⟩ := q
      have ln : ∀ xs, setTgs t' xs st = some st' → xs.length = es.length := by
        intro xs e
        clear i1 i2 q ok sh both
        have len : ∀ (es : List Expr) (t' : Tg) (xs : List D) (st st' : St), compTg.compTgs (compTg N lsc n) es = some t' → setTgs t' xs st = some st' → xs.length = es.length := by
          intro es
          induction es with
          | nil =>
            intro t' xs st st' h e
            simp only [compTg.compTgs, Option.some.injEq] at h
            subst h
            cases xs with
            | nil => rfl
            | cons x xs => simp [setTgs] at e
          | cons e0 es ih =>
            intro t' xs st st' h e
            have ns : ∀ x p, e0 ≠ .Starred x p := fun x p z => by subst z; simp [compTg.compTgs] at h
            have h' : (match compTg N lsc n e0, compTg.compTgs (compTg N lsc n) es with | some a, some b => some (Tg.cons a b) | _, _ => none) = some t' := by
              rw [← h]
              cases e0 with
              | Starred x p => exact absurd rfl (ns x p)
              | _ => rfl
            cases e1 : compTg N lsc n e0 with
            | none => rw [e1] at h'; cases h'
            | some a =>
              cases e2 : compTg.compTgs (compTg N lsc n) es with
              | none => rw [e1, e2] at h'; cases h'
              | some b =>
                rw [e1, e2] at h'
                cases h'
                cases xs with
                | nil => simp [setTgs] at e
                | cons x xs =>
                  simp only [setTgs] at e
                  cases e3 : setTg a x st with
                  | none => rw [e3] at e; cases e
                  | some st1 =>
                    rw [e3] at e
                    simp [ih b xs st1 st' e2 e]
        exact len es t' xs st st' h' e
      cases y with
      | tup xs =>
        obtain ⟨a, vs, rfl, h1, h2⟩ := sh
        simp only [setTg] at e
        exact .inl ⟨a, vs, rfl, SqT.of (ok.sub _ _ h1), by rw [← h2.len]; exact ln xs e, st, Hs, xs, st', ok, h2, e, q⟩
      | lst xs =>
        obtain ⟨a, vs, rfl, h1, h2⟩ := sh
        simp only [setTg] at e
        exact .inr ⟨a, vs, rfl, SqL.of (ok.sub _ _ h1), by rw [← h2.len]; exact ln xs e, st, Hs, xs, st', ok, h2, e, q⟩
      | _ => simp [setTg] at e
    · cases h
end
end Itp

namespace Itp
variable [KF]
open PySem PySem.Spec PyProof.Rows
open L2 (V Hp HO upd upd_same upd_ne ne_of ne_of_none Same Cx Inv OpR CallR MtR IxR SlR PSet TruR Room RelV EP VK SqL SqT Dp DpAll It TI TE TA TT TG TGs TS TO PI PE PT PW PA PG PGs PS PSs PO PTs PIE thn Turn FpOk Itl Itt Its Itr Itc Itv Ite Itz Gl Vis Loc Sp FnOk Binds Ends)
theorem starEach_of {e : Expr} (h : ∀ x p, e ≠ .Starred x p) (es : List Expr) (env : Env) : starEach (e :: es) env = (false, eval e env) :: starEach es env := by
  cases e with
  | Starred x p => exact absurd rfl (h x p)
  | _ => rfl
theorem anyStar : ∀ {es : List Expr}, (∀ e ∈ es, ∀ x p, e ≠ .Starred x p) → ∀ (pos : Pos) (env : Env), (backTo pos (starEach es env)).any (·.1) = false
  | [], _, _, _ => rfl
  | e :: es, h, pos, env => by
    rw [starEach_of (h e List.mem_cons_self)]
    have ih := anyStar (fun e' he => h e' (List.mem_cons_of_mem _ he)) pos env
    unfold backTo at ih ⊢
    simpa using ih
theorem compE_star {N : List Str} {gs : Gs} {n : Nat} {sc : Scope} {ex : Expr} {e : E} (h : compE N gs n sc ex = some e) : ∀ x p, ex ≠ .Starred x p := by
  intro x p z
  subst z
  induction n generalizing gs e with
  | zero => simp [compE] at h
  | succ n ih =>
    unfold compE at h
    split at h
    · simp at h
    · unfold compW at h
      split at h
      · cases h
      · simp only [plX] at h
        repeat' split at h
        all_goals first | (cases h; done) | (simp only [Option.map_eq_some_iff] at h; obtain ⟨x, hx, _⟩ := h; exact ih hx) | (simp at h; done)
theorem compE_slice {N : List Str} {gs : Gs} {n : Nat} {sc : Scope} {ex : Expr} {e : E} (h : compE N gs n sc ex = some e) : ∀ a b c p, ex ≠ .Slice a b c p := by
  intro a b c p z
  subst z
  induction n generalizing gs e with
  | zero => simp [compE] at h
  | succ n ih =>
    unfold compE at h
    split at h
    · simp at h
    · unfold compW at h
      split at h
      · cases h
      · simp only [plX] at h
        repeat' split at h
        all_goals first | (cases h; done) | (simp only [Option.map_eq_some_iff] at h; obtain ⟨x, hx, _⟩ := h; exact ih hx) | (simp at h; done)
theorem compE_set {N : List Str} {gs : Gs} {n : Nat} {sc : Scope} {ex : Expr} {e : E} (h : compE N gs n sc ex = some e) : ∀ a b c, ex ≠ .Set a b c := by
  intro a b c z
  subst z
  induction n generalizing gs e with
  | zero => simp [compE] at h
  | succ n ih =>
    unfold compE at h
    split at h
    · simp at h
    · unfold compW at h
      split at h
      · cases h
      · simp only [plX] at h
        repeat' split at h
        all_goals first | (cases h; done) | (simp only [Option.map_eq_some_iff] at h; obtain ⟨x, hx, _⟩ := h; exact ih hx) | (simp at h; done)
theorem compAll_star {N : List Str} {gs : Gs} {n : Nat} {sc : Scope} : ∀ {es : List Expr} {a : E}, compAll (compE N gs n sc) es = some a → ∀ e ∈ es, ∀ x p, e ≠ .Starred x p
  | [], _, _, e, he => by simp at he
  | e0 :: es, a, h, e, he => by
    unfold compAll at h
    split at h
    · rename_i x y h1 h2
      rcases List.mem_cons.mp he with z | z
      · subst z; exact compE_star h1
      · exact compAll_star h2 e z
    · cases h
theorem marks_of {op : CmpOp} {b : Expr} (h : ∀ x y z, b ≠ .Set x y z) : behindInMarks op b = false := by
  cases b with
  | Set x y z => exact absurd rfl (h x y z)
  | _ => rfl
theorem plainIx_of {b : Expr} (h : ∀ x y z p, b ≠ .Slice x y z p) : L2.PlainIx b := fun o i => by
  cases b with
  | Slice x y z p => exact absurd rfl (h x y z p)
  | _ => rfl
theorem foldSet_of {e : Expr} (h : ∀ x y z, e ≠ .Set x y z) (env : Env) (x : Value) : foldedSetIterable e env x = pure x := by
  cases e with
  | Set a b c => exact absurd rfl (h a b c)
  | _ => rfl
theorem RA.views {σ : L2.St} {st : St} {Hs H : Hp} (k : Ok σ st Hs H) : ∀ {rs : List R} {vs : List V} {ds : List D}, RA σ st Hs H rs vs → viewAll rs st = some ds → RVA Hs H ds vs
  | [], _, ds, h, e => by
    simp only [viewAll, Option.some.injEq] at e
    subst e
    exact h
  | r :: rs, _, ds, h, e => by
    obtain ⟨v, ws, rfl, q, t, _⟩ := h
    simp only [viewAll] at e
    cases e1 : view r st with
    | none => rw [e1] at e; cases e
    | some x =>
      cases e2 : viewAll rs st with
      | none => rw [e1, e2] at e; cases e
      | some xs =>
        rw [e1, e2] at e
        cases e
        exact ⟨v, ws, rfl, k.view q e1, RA.views k t e2⟩
theorem PostE.one {Q : VK} {σ : L2.St} {st : St} {Hs H : Hp} {r : R} {s : St} (h : PostE Q σ st Hs H r s) {v : V} {H' Hs' : Hp} (a : Ok σ s Hs' H') (b : Fr σ st Hs H σ s Hs' H') (c : RRep σ s Hs' H' v r) (d : Fresh σ st H v r) : Q v H' := h v H' Hs' a b c d
section
variable {T : Tab} {k : Nat} {gs : Gs} {N : List Str} {sc : Scope} {X : Cx} {Y : XP}
/-- what is shown of an expression -/
structure SE (T : Tab) (k : Nat) (X : Cx) (Y : XP) (ex : Expr) (e : E) : Prop where
  pe : PE X ex (TrE (call T k) Y e)
  pt : PT X ex (TrT (call T k) Y e)
  pw : ∀ op es p, ex = .BoolOp op es p → PW X ex (TrT (call T k) Y e)
theorem SE.mk' {ex : Expr} {e : E} (hE : PE X ex (TrE (call T k) Y e)) (he : ∀ whole, isTrue ex X.env whole = (do let v ← whole; standAt ex.pos; PySem.holding [v] (truthy v)))
    (hw : ∀ {X0 : Xc} st Q, wpT (call T k) X0 e st Q → wpE (call T k) X0 e st fun r s1 => ∃ x, view r s1 = some x ∧ truth x fun k => Q k s1) (hb : ∀ op es p, ex ≠ .BoolOp op es p) : SE T k X Y ex e := by
  have hC := call_mono T k
  refine ⟨hE, PT.imp (L2.pt_truth hE he) fun σ H Q h => ?_, fun op es p z => absurd z (hb op es p)⟩
  obtain ⟨st, Hs, ok, w⟩ := h
  refine bindE hC ok (hw _ _ w) fun r st' v H' Hs' w ok' f' rr fr => ?_
  obtain ⟨x, e1, w⟩ := w
  obtain ⟨b, t1, t2⟩ := truth_R (K := X.K) ok'.sub (ok'.view rr e1) w
  exact ⟨b, t1, t2 H' Hs' ok' f'⟩
theorem se_fz {ex : Expr} {e : E} (h : SE T k X Y ex e) : SE T k X Y ex (.fz e) := by
  have hC := call_mono T k
  refine ⟨PE.imp h.pe fun σ H Q q => ?_, PT.imp h.pt fun σ H Q q => ?_, fun op es p z => PW.imp (h.pw op es p z) fun σ H Q q => ?_⟩
  · obtain ⟨st, Hs, ok, w⟩ := q
    simp only [wpE] at w
    refine bindE hC ok w fun r s1 v H1 Hs1 w ok1 f1 r1 n1 => ?_
    obtain ⟨x, s2, e1, w⟩ := w
    have viaF : ∀ y, froz r s1 = some (y, s2) → x = .v (.d y) → Q v H1 := fun y e2 e3 => by
      obtain ⟨Hs2, ok2, f2, sh, _⟩ := froz_ok (rs := []) (ws := []) ok1 f1 r1 n1 e2 rfl (fun a ha => by simp [tmps])
      subst e3
      exact w v H1 Hs2 ok2 f2 sh fun a ha => by simp [tmp] at ha
    cases r with
    | c i a n =>
      simp only [fzo, Option.some.injEq, Prod.mk.injEq] at e1
      obtain ⟨rfl, rfl⟩ := e1
      exact w v H1 Hs1 ok1 f1 r1.1 fun a ha => by simp [tmp] at ha
    | v o =>
      simp only [fzo] at e1
      cases q : froz (.v o) s1 with
      | none => rw [q] at e1; cases e1
      | some p =>
        rw [q] at e1
        simp only [Option.some.injEq, Prod.mk.injEq] at e1
        obtain ⟨rfl, rfl⟩ := e1
        exact viaF p.1 q rfl
    | r i =>
      simp only [fzo] at e1
      split at e1
      · rename_i y q
        simp only [Option.some.injEq, Prod.mk.injEq] at e1
        obtain ⟨rfl, rfl⟩ := e1
        exact viaF y (by simp only [froz, q]) rfl
      · rename_i y q
        simp only [Option.some.injEq, Prod.mk.injEq] at e1
        obtain ⟨rfl, rfl⟩ := e1
        exact viaF (.lst y) (by simp only [froz, q]) rfl
      · simp only [Option.some.injEq, Prod.mk.injEq] at e1
        obtain ⟨rfl, rfl⟩ := e1
        exact w v H1 Hs1 ok1 f1 r1 n1
      · simp only [Option.some.injEq, Prod.mk.injEq] at e1
        obtain ⟨rfl, rfl⟩ := e1
        exact w v H1 Hs1 ok1 f1 r1 n1
      · cases e1
  · obtain ⟨st, Hs, ok, w⟩ := q
    simp only [wpT] at w
  · obtain ⟨st, Hs, ok, w⟩ := q
    simp only [wpT] at w
theorem compAll_starF {f : Expr → Option E} (hs : ∀ ex e, f ex = some e → ∀ x p, ex ≠ .Starred x p) : ∀ {es : List Expr} {a : E}, compAll f es = some a → ∀ e ∈ es, ∀ x p, e ≠ .Starred x p
  | [], _, _, e, he => by simp at he
  | e0 :: es, a, h, e, he => by
    unfold compAll at h
    split at h
    · rename_i x y h1 h2
      rcases List.mem_cons.mp he with z | z
      · subst z; exact hs _ _ h1
      · exact compAll_starF hs h2 e z
    · cases h
/-- arguments -/
theorem snd_AF {f : Expr → Option E} (ih : ∀ ex e, f ex = some e → SE T k X Y ex e) (hs : ∀ ex e, f ex = some e → ∀ x p, ex ≠ .Starred x p) : ∀ {es : List Expr} {a : E}, compAll f es = some a → PA X es (TrA (call T k) Y a)
  | [], a, h => by
    simp only [compAll, Option.some.injEq] at h
    subst h
    refine PA.imp L2.pa_nil fun σ H Q h => ?_
    obtain ⟨st, Hs, ok, w⟩ := h
    simp only [wpA] at w
    exact w [] H Hs ok Fr.refl rfl fun a ha => by simp [tmps] at ha
  | e0 :: es, a, h => by
    have hC := call_mono T k
    unfold compAll at h
    split at h
    · rename_i x y h1 h2
      cases h
      refine PA.imp (L2.pa_cons (ih _ _ h1).pe (snd_AF ih hs h2) (starEach_of (hs _ _ h1) es _)) fun σ H Q h => ?_
      obtain ⟨st, Hs, ok, w⟩ := h
      simp only [wpA] at w
      refine bindE hC ok w fun r s1 v H1 Hs1 w ok1 f1 r1 n1 => ?_
      refine bindA hC ok1 w fun rs s2 vs H2 Hs2 w ok2 f2 r2 n2 => ?_
      exact w (v :: vs) H2 Hs2 ok2 (f1.trans f2) (RA.cons r1 f2 r2 n2) (FreshA.cons n1 (n2.back f1))
    · cases h
theorem snd_A {n : Nat} (ih : ∀ ex e, compE N gs n sc ex = some e → SE T k X Y ex e) {es : List Expr} {a : E} (h : compAll (compE N gs n sc) es = some a) : PA X es (TrA (call T k) Y a) := snd_AF ih (fun _ _ h => compE_star h) h
theorem argX_se {lt : List Str} {tl : Bool} {f : Expr → Option E} (ih : ∀ ex e, f ex = some e → SE T k X Y ex e) : ∀ ex e, argX lt tl f ex = some e → SE T k X Y ex e := by
  intro ex e h
  unfold argX at h
  split at h
  · split at h
    · exact ih _ _ h
    · simp only [Option.map_eq_some_iff] at h; obtain ⟨x, hx, rfl⟩ := h; exact se_fz (ih _ _ hx)
  · split at h
    · exact ih _ _ h
    · simp only [Option.map_eq_some_iff] at h; obtain ⟨x, hx, rfl⟩ := h; exact se_fz (ih _ _ hx)
theorem argX_star {lt : List Str} {tl : Bool} {f : Expr → Option E} (hs : ∀ ex e, f ex = some e → ∀ x p, ex ≠ .Starred x p) : ∀ ex e, argX lt tl f ex = some e → ∀ x p, ex ≠ .Starred x p := by
  intro ex e h
  unfold argX at h
  split at h
  · split at h
    · exact hs _ _ h
    · simp only [Option.map_eq_some_iff] at h; obtain ⟨x, hx, rfl⟩ := h; exact hs _ _ hx
  · split at h
    · exact hs _ _ h
    · simp only [Option.map_eq_some_iff] at h; obtain ⟨x, hx, rfl⟩ := h; exact hs _ _ hx
def elen : E → Nat
  | .cons _ b => elen b + 1
  | _ => 0
theorem wpA_len {C : Ct} (hC : CtMono C) {X0 : Xc} : ∀ (a : E) (st : St) (Q : List R → St → Prop), wpA C X0 a st Q → wpA C X0 a st fun rs s => rs.length = elen a ∧ Q rs s := by
  intro a
  induction a with
  | nil => intro st Q w; simp only [wpA] at w ⊢; exact ⟨rfl, w⟩
  | cons x y _ ih =>
    intro st Q w
    simp only [wpA] at w ⊢
    exact wpE_mono hC w fun r s1 w => wpA_mono hC (ih s1 _ w) fun rs s2 ⟨l, q⟩ => ⟨by simp [elen, l], q⟩
  | _ => intro st Q w; simp only [wpA] at w
theorem compAll_len {f : Expr → Option E} : ∀ {es : List Expr} {a : E}, compAll f es = some a → elen a = es.length
  | [], a, h => by simp only [compAll, Option.some.injEq] at h; subst h; rfl
  | e :: es, a, h => by
    unfold compAll at h
    split at h
    · rename_i x y h1 h2
      cases h
      simp [elen, compAll_len h2]
    · cases h
theorem RVA.len {Hs H : Hp} : ∀ {ds : List D} {vs : List V}, RVA Hs H ds vs → ds.length = vs.length
  | [], _, h => by cases (show _ = [] from h); rfl
  | d :: ds, _, h => by
    obtain ⟨v, ws, rfl, _, t⟩ := h
    simp [RVA.len t]
theorem RVA.three {Hs H : Hp} {x y z : D} {vs : List V} (h : RVA Hs H [x, y, z] vs) : ∃ v w u, vs = [v, w, u] ∧ RV Hs H x v ∧ RV Hs H y w ∧ RV Hs H z u := by
  obtain ⟨v, ws, rfl, a, b⟩ := h
  obtain ⟨w, u, rfl, c, d⟩ := RVA.two b
  exact ⟨v, w, u, rfl, a, c, d⟩
theorem items_r1 {d : D} {Q : List D → Prop} (h : items .range [d] Q) : ∃ j, d = .int j ∧ (-(2 ^ 62) ≤ j ∧ j < 2 ^ 62) ∧ Q (rangeD 0 j.toNat) := by
  cases d with
  | int j => exact ⟨j, rfl, h⟩
  | _ => exact (show False from h).elim
theorem items_r2 {d e : D} {Q : List D → Prop} (h : items .range [d, e] Q) : ∃ i j, d = .int i ∧ e = .int j ∧ Q (rangeD i (j - i).toNat) := by
  cases d with
  | int i =>
    cases e with
    | int j => exact ⟨i, j, rfl, rfl, h⟩
    | _ => exact (show False from h).elim
  | _ => cases e <;> exact (show False from h).elim
theorem items_r3 {d e f : D} {Q : List D → Prop} (h : items .range [d, e, f] Q) : ∃ i j, d = .int i ∧ e = .int j ∧ f = .int (-1) ∧ (-(2 ^ 62) ≤ i ∧ i < 2 ^ 62 ∧ -(2 ^ 62) ≤ j ∧ j < 2 ^ 62) ∧ Q (downD i (i - j).toNat) := by
  cases d with
  | int i =>
    cases e with
    | int j =>
      cases f with
      | int c =>
        have h : c = -1 ∧ (-(2 ^ 62) ≤ i ∧ i < 2 ^ 62 ∧ -(2 ^ 62) ≤ j ∧ j < 2 ^ 62) ∧ Q (downD i (i - j).toNat) := h
        exact ⟨i, j, rfl, rfl, by rw [h.1], h.2⟩
      | _ => exact (show False from h).elim
    | _ => cases f <;> exact (show False from h).elim
  | _ => cases e <;> cases f <;> exact (show False from h).elim
theorem items_rev {d : D} {Q : List D → Prop} (h : items .rev [d] Q) : (∃ xs, d = .lst xs ∧ Q xs.reverse) ∨ ∃ xs, d = .tup xs ∧ Q xs.reverse := by
  cases d with
  | lst xs => exact .inl ⟨xs, rfl, h⟩
  | tup xs => exact .inr ⟨xs, rfl, h⟩
  | _ => exact (show False from h).elim
theorem items_enum {d : D} {Q : List D → Prop} (h : items .enum [d] Q) : (∃ xs, d = .lst xs ∧ Q (enumD 0 xs)) ∨ ∃ xs, d = .tup xs ∧ Q (enumD 0 xs) := by
  cases d with
  | lst xs => exact .inl ⟨xs, rfl, h⟩
  | tup xs => exact .inr ⟨xs, rfl, h⟩
  | _ => exact (show False from h).elim
/-- a tuple (t), else a list -/
def tlB (t : Bool) (xs : List D) : D := match t with
  | true => .tup xs
  | false => .lst xs
theorem items_zip {d e : D} {Q : List D → Prop} (h : items .zip [d, e] Q) : ∃ t1 t2 xs ys, d = tlB t1 xs ∧ e = tlB t2 ys ∧ Q (zipD xs ys) := by
  cases d with
  | lst xs =>
    cases e with
    | lst ys => exact ⟨false, false, xs, ys, rfl, rfl, h⟩
    | tup ys => exact ⟨false, true, xs, ys, rfl, rfl, h⟩
    | _ => exact (show False from h).elim
  | tup xs =>
    cases e with
    | tup ys => exact ⟨true, true, xs, ys, rfl, rfl, h⟩
    | lst ys => exact ⟨true, false, xs, ys, rfl, rfl, h⟩
    | _ => exact (show False from h).elim
  | _ => cases e <;> exact (show False from h).elim
/-- a list or a tuple that is to be read, as it stands in the heap -/
theorem rv_tl {Hs H : Hp} (sub : Same Hs H) {t : Bool} {xs : List D} {v : V} (h : RV Hs H (tlB t xs) v) : ∃ a us, v = .ref a ∧ H a = some (if t = true then .tup us else .lst us) ∧ ShA Hs xs us := by
  cases t
  · obtain ⟨a, us, e, h1, h2⟩ := h
    exact ⟨a, us, e, h1, h2⟩
  · obtain ⟨a, us, e, h1, h2⟩ := h
    exact ⟨a, us, e, sub _ _ h1, h2⟩
theorem isTup_of {tg : Expr} (h : isTup tg = true) : ∃ elts kk pos, tg = .Tuple elts kk pos := by
  cases tg <;> first | exact ⟨_, _, _, rfl⟩ | cases h
/-- an iterable's reading -/
def TrI (C : Ct) (Y : XP) (s : Src) (as : E) : TI := fun σ H R => ∃ st Hs, Ok σ st Hs H ∧ wpA C (PostX Y σ st Hs H) as st fun rs st' => ∀ vs H' Hs', Ok σ st' Hs' H' → Fr σ st Hs H σ st' Hs' H' → RA σ st' Hs' H' rs vs → FreshA σ st H vs rs →
  ∃ ds, viewAll rs st' = some ds ∧ items s ds fun xs => ∀ J, Wlk Hs' J xs (Held vs H') → R J H'
theorem snd_I (g : Gd T k gs N sc X Y) {n : Nat} (ih : ∀ ex e, compE N gs n sc ex = some e → SE T k X Y ex e) {tg it : Expr} {s : Src} {as : E} (h : compI (compE N gs n sc) sc gs (isTup tg) it = some (s, as)) : PI X tg it (TrI (call T k) Y s as) := by
  have hC := call_mono T k
  -- as it is
  have plain : ∀ {it : Expr} {a : E}, compE N gs n sc it = some a → PI X tg it (TrI (call T k) Y .plain (.cons a .nil)) := by
    intro it a h
    refine PI.imp (pi_seq (ih _ _ h).pe) fun σ H R q => ?_
    obtain ⟨st, Hs, ok, w⟩ := q
    simp only [wpA] at w
    refine bindE hC ok w fun r s1 v H1 Hs1 w ok1 f1 r1 n1 => ?_
    obtain ⟨ds, e, w⟩ := w [v] H1 Hs1 ok1 f1 ⟨v, [], rfl, r1, rfl, fun a _ => by simp [tmps]⟩ (fun a ha => n1 a (by simpa [tmps] using ha))
    have rv := RA.views ok1 (show RA σ s1 Hs1 H1 [r] [v] from ⟨v, [], rfl, r1, rfl, fun a _ => by simp [tmps]⟩) e
    unfold items at w
    split at w <;> first
      | exact w.elim
      | (obtain ⟨w1, e1, a, us, rfl, h1, h2⟩ := rv.one
         cases e1
         exact .inl ⟨a, us, rfl, SqL.of h1, w _ (wlk_list h2 h1 (by simp))⟩)
      | (obtain ⟨w1, e1, a, us, rfl, h1, h2⟩ := rv.one
         cases e1
         exact .inr (.inl ⟨a, us, rfl, SqT.of (ok1.sub _ _ h1), w _ (wlk_tup h2 (ok1.sub _ _ h1) (by simp))⟩))
      | (obtain ⟨w1, e1, q⟩ := rv.one
         cases e1
         cases (show v = _ from q)
         exact .inr (.inr ⟨_, rfl, w _ wlk_str⟩))
      | (rename_i hk; cases hk)
  -- the rest, by its arguments
  have fromA : ∀ {es : List Expr} {a : E} {F : List V → Hp → Prop} {s : Src} {σ : L2.St} {H : Hp} {R : It → Hp → Prop}, compAll (compE N gs n sc) es = some a →
      (∀ vs Hs H' ds, Same Hs H' → ds.length = es.length → RVA Hs H' ds vs → (items s ds fun xs => ∀ J, Wlk Hs J xs (Held vs H') → R J H') → F vs H') → TrI (call T k) Y s a σ H R → TrA (call T k) Y a σ H F := by
    intro es a F s σ H R h1 h2 q
    obtain ⟨st, Hs, ok, w⟩ := q
    refine bindA hC ok (wpA_len hC _ _ _ w) fun rs s1 vs H1 Hs1 w ok1 f1 r1 n1 => ?_
    obtain ⟨l, w⟩ := w
    obtain ⟨ds, e, w⟩ := w vs H1 Hs1 ok1 f1 r1 n1
    have rv := RA.views ok1 r1 e
    refine h2 vs Hs1 H1 ds ok1.sub ?_ rv w
    rw [rv.len, ← r1.len, l, compAll_len h1]
  have bl : ∀ {x : Str}, x ∈ bltNames → X.mg x = none := fun h => g.blt _ h
  unfold compI at h
  split at h
  · rename_i gn p es pos
    split at h
    · simp only [Option.map_eq_some_iff] at h
      obtain ⟨a, h, e⟩ := h
      cases e
      exact plain h
    · rename_i hng
      simp only [Bool.or_eq_true, Bool.not_eq_true', not_or, Bool.not_eq_false, Bool.not_eq_true] at hng
      have hg : Gl X gn := g.gl hng.1.2
      split at h
      · rename_i e
        subst e
        split at h
        · rename_i e1
          simp only [Option.map_eq_some_iff] at h
          obtain ⟨a, h, e⟩ := h
          cases e
          have st1 := compAll_star h e1 (by simp)
          refine PI.imp (L2.pi_range1 hg (bl (by decide)) (snd_A ih h) (by rw [starEach_of st1]; rfl)) fun σ H R q => ?_
          refine fromA h (fun vs Hs H' ds sub l rv w => ?_) q
          match ds, l with
          | [d], _ =>
            obtain ⟨j, rfl, b, w⟩ := items_r1 w
            obtain ⟨v, rfl, q⟩ := rv.one
            cases (show v = _ from q)
            exact ⟨j, rfl, b.1, b.2, w _ wlk_range⟩
        · rename_i e1 e2
          simp only [Option.map_eq_some_iff] at h
          obtain ⟨a, h, e⟩ := h
          cases e
          have st1 := compAll_star h e1 (by simp)
          have st2 := compAll_star h e2 (by simp)
          refine PI.imp (pi_rangeA hg (bl (by decide)) (snd_A ih h) (by rw [starEach_of st1, starEach_of st2]; rfl) (by rw [starEach_of st2]; rfl)) fun σ H R q => ?_
          refine fromA h (fun vs Hs H' ds sub l rv w => ?_) q
          match ds, l with
          | [d, d2], _ =>
            obtain ⟨i, j, rfl, rfl, w⟩ := items_r2 w
            obtain ⟨v, u, rfl, q, q2⟩ := rv.two
            cases (show v = _ from q); cases (show u = _ from q2)
            exact ⟨i, j, rfl, w _ wlk_range⟩
        · rename_i e1 e2 e3
          simp only [Option.map_eq_some_iff] at h
          obtain ⟨a, h, e⟩ := h
          cases e
          have st1 := compAll_star h e1 (by simp)
          have st2 := compAll_star h e2 (by simp)
          have st3 := compAll_star h e3 (by simp)
          refine PI.imp (L2.pi_range3 hg (bl (by decide)) (snd_A ih h) (by rw [starEach_of st1]) (by rw [starEach_of st2, starEach_of st3]; rfl)) fun σ H R q => ?_
          refine fromA h (fun vs Hs H' ds sub l rv w => ?_) q
          match ds, l with
          | [d, d2, d3], _ =>
            obtain ⟨i, j, rfl, rfl, rfl, b, w⟩ := items_r3 w
            obtain ⟨v, u, z, rfl, q, q2, q3⟩ := rv.three
            cases (show v = _ from q); cases (show u = _ from q2); cases (show z = _ from q3)
            exact ⟨i, j, -1, _, rfl, L2.RgC.neg b.1 b.2.1 b.2.2.1 b.2.2.2, w _ wlk_down⟩
        · cases h
      · split at h
        · rename_i _ e
          subst e
          split at h
          · rename_i e1
            simp only [Option.map_eq_some_iff] at h
            obtain ⟨a, h, e⟩ := h
            cases e
            have st1 := compAll_star h e1 (by simp)
            unfold compAll at h
            split at h
            · rename_i x y h1 h2
              cases h
              simp only [compAll, Option.some.injEq] at h2
              subst h2
              refine PI.imp (RT.pi_revA hg (bl (by decide)) (ih _ _ h1).pe (starEach_of st1 _ _)) fun σ H R q => ?_
              obtain ⟨st, Hs, ok, w⟩ := q
              simp only [wpA] at w
              refine bindE hC ok w fun r s1 v H1 Hs1 w ok1 f1 r1 n1 => ?_
              obtain ⟨ds, e, w⟩ := w [v] H1 Hs1 ok1 f1 ⟨v, [], rfl, r1, rfl, fun a _ => by simp [tmps]⟩ (fun a ha => n1 a (by simpa [tmps] using ha))
              have rv := RA.views ok1 (show RA σ s1 Hs1 H1 [r] [v] from ⟨v, [], rfl, r1, rfl, fun a _ => by simp [tmps]⟩) e
              have l := rv.len
              match ds, l with
              | [d], _ =>
                rcases items_rev w with ⟨xs, rfl, w⟩ | ⟨xs, rfl, w⟩
                · obtain ⟨w1, e1, a, us, rfl, h1, h2⟩ := rv.one
                  cases e1
                  exact ⟨a, us, rfl, .inl ⟨SqL.of h1, w _ (wlk_rev h2 h1 (by simp))⟩⟩
                · obtain ⟨w1, e1, a, us, rfl, h1, h2⟩ := rv.one
                  cases e1
                  exact ⟨a, us, rfl, .inr ⟨SqT.of (ok1.sub _ _ h1), w _ (wlk_revT h2 (ok1.sub _ _ h1) (by simp))⟩⟩
            · cases h
          · cases h
        · split at h
          · rename_i _ _ e
            subst e
            split at h
            · rename_i e1 tp
              simp only [Option.map_eq_some_iff] at h
              obtain ⟨a, h, e⟩ := h
              cases e
              have st1 := compAll_star h e1 (by simp)
              obtain ⟨elts, kk, tpos, rfl⟩ := isTup_of tp
              refine PI.imp (pi_enumA hg (bl (by decide)) (snd_A ih h) (by rw [starEach_of st1]; rfl)) fun σ H R q => ?_
              refine fromA h (fun vs Hs H' ds sub l rv w => ?_) q
              match ds, l with
              | [d], _ =>
                rcases items_enum w with ⟨xs, rfl, w⟩ | ⟨xs, rfl, w⟩
                · obtain ⟨v, rfl, a, us, rfl, h1, h2⟩ := rv.one
                  exact ⟨a, us, rfl, .inl ⟨SqL.of h1, w _ (wlk_enum h2 h1 (by simp))⟩⟩
                · obtain ⟨v, rfl, a, us, rfl, h1, h2⟩ := rv.one
                  exact ⟨a, us, rfl, .inr ⟨SqT.of (sub _ _ h1), w _ (wlk_enumT h2 (sub _ _ h1) (by simp))⟩⟩
            · cases h
          · split at h
            · rename_i _ _ _ e
              subst e
              split at h
              · rename_i e1 e2 tp
                simp only [Option.map_eq_some_iff] at h
                obtain ⟨a, h, e⟩ := h
                cases e
                have st1 := compAll_star h e1 (by simp)
                have st2 := compAll_star h e2 (by simp)
                obtain ⟨elts, kk, tpos, rfl⟩ := isTup_of tp
                refine PI.imp (pi_zipM hg (bl (by decide)) (snd_A ih h) (by rw [starEach_of st1]) (by rw [starEach_of st2]; rfl)) fun σ H R q => ?_
                refine fromA h (fun vs Hs H' ds sub l rv w => ?_) q
                match ds, l with
                | [d, d2], _ =>
                  obtain ⟨t1, t2, xs, ys, rfl, rfl, wz⟩ := items_zip w
                  obtain ⟨v, v2, rfl, r1, r2⟩ := rv.two
                  obtain ⟨a, us, rfl, h1, h2⟩ := rv_tl sub r1
                  obtain ⟨b, us2, rfl, h3, h4⟩ := rv_tl sub r2
                  exact ⟨t1, t2, a, b, us, us2, rfl, SqB.of h1, SqB.of h3, wz _ (wlk_zipM h2 h4 h1 h3 (by simp) (by simp))⟩
              · cases h
            · simp only [Option.map_eq_some_iff] at h
              obtain ⟨a, h, e⟩ := h
              cases e
              exact plain h
  · simp only [Option.map_eq_some_iff] at h
    obtain ⟨a, h, e⟩ := h
    cases e
    exact plain h
end
end Itp

namespace Itp
variable [KF]
open PySem PySem.Spec PyProof.Rows
open L2 (V Hp HO upd upd_same upd_ne ne_of ne_of_none Same Cx Inv OpR CallR MtR IxR SlR PSet TruR Room RelV EP VK SqL SqT Dp DpAll It TI TE TA TT TG TGs TS TO PI PE PT PW PA PG PGs PS PSs PO PTs PIE thn Turn FpOk Itl Itt Its Itr Itc Itv Ite Itz Gl Vis Loc Sp FnOk Binds Ends)
theorem PT.ofW {X : Cx} {e : Expr} {t : TT} (h : PW X e t) : PT X e t := ⟨fun pins s σ H Q I q => h.run _ pins s σ H Q I q⟩
theorem pt_if {X : Cx} {c a b : Expr} {pos : Pos} {tc ta tb : TT} (hc : PT X c tc) (ha : PT X a ta) (hb : PT X b tb) : PT X (.IfExp c a b pos) (fun σ H Q => tc σ H fun k H1 => if k = true then ta σ H1 Q else tb σ H1 Q) := by
  refine ⟨fun pins s σ H Q I h => ?_⟩
  refine isTrue_IfExp (thn (hc.run pins s σ H _ I h) fun d s1 ⟨H1, I1, q1⟩ => ?_)
  cases d with
  | true => exact ha.run pins s1 σ H1 Q I1 q1
  | false => exact hb.run pins s1 σ H1 Q I1 q1
section
variable {C : Ct} (hC : CtMono C) {Y : XP} {X0 : Xc} {σ : L2.St} {st : St} {Hs H : Hp}
include hC
theorem bind2 {a b : E} {F : R → R → St → Prop} {G : V → V → Hp → Prop} (ok : Ok σ st Hs H) (w : wpE C X0 a st fun ra s1 => wpE C X0 b s1 (F ra))
    (h : ∀ ra rb s2 v u H2 Hs2, F ra rb s2 → Ok σ s2 Hs2 H2 → Fr σ st Hs H σ s2 Hs2 H2 → RRep σ s2 Hs2 H2 v ra → RRep σ s2 Hs2 H2 u rb → G v u H2) (hx : Xc.Le X0 (PostX Y σ st Hs H) := by first | exact Xc.Le.rfl | exact PostX.shift (by assumption) | exact EnOf.le (by assumption) | exact EnOf.le Fr.refl) : TrE C Y a σ H fun v H1 => TrE C Y b σ H1 fun u H2 => G v u H2 :=
  bindE hC ok w (fun ra s1 v H1 Hs1 w ok1 f1 r1 n1 => bindE hC ok1 w (fun rb s2 u H2 Hs2 w ok2 f2 r2 n2 => h ra rb s2 v u H2 Hs2 w ok2 (f1.trans f2) (r1.lift f2) r2) ⟨fun c ds s q H' Hs' a b => hx.ex c ds s q H' Hs' a (f1.trans b), hx.cur⟩) hx
end
theorem Ok.view2 {σ : L2.St} {st : St} {Hs H : Hp} (k : Ok σ st Hs H) {v : V} {r : R} {x : D} (h : RRep σ st Hs H v r) (e : Itp.view r st = some x) : RV Hs H x v := k.view h e
section
variable {T : Tab} {k : Nat} {gs : Gs} {N : List Str} {sc : Scope} {X : Cx} {Y : XP}
theorem se_bin {a b : Expr} {pos : Pos} {op : Operator} {x y : E} (ha : SE T k X Y a x) (hb : SE T k X Y b y) : SE T k X Y (.BinOp a op b pos) (.bin op x y) := by
  have hC := call_mono T k
  refine SE.mk' (PE.imp (L2.pe_op binop_R ha.pe hb.pe) fun σ H Q h => ?_) (fun _ => rfl) (fun st Q w => by simpa only [wpT] using w) (fun _ _ _ => by simp)
  obtain ⟨st, Hs, ok, w⟩ := h
  simp only [wpE] at w
  refine bind2 hC ok w fun ra rb s2 v u H2 Hs2 w ok2 f2 r1 r2 => ?_
  obtain ⟨dx, dy, e1, e2, w⟩ := w
  refine ⟨Hs2, dx, dy, ok2.sub, ok2.view r1 e1, ok2.view r2 e2, binop_mono (fun z w v' H' Hs' g => ?_) w⟩
  obtain ⟨ok3, f3, r3, n3⟩ := ok2.grow g
  exact w v' H' Hs' ok3 (f2.trans f3) r3 (n3.back f2)
theorem se_neg {a : Expr} {pos : Pos} {x : E} (ha : SE T k X Y a x) : SE T k X Y (.UnaryOp .USub a pos) (.neg x) := by
  have hC := call_mono T k
  refine SE.mk' (PE.imp (L2.pe_un L2.un_neg ha.pe) fun σ H Q h => ?_) (fun _ => rfl) (fun st Q w => by simpa only [wpT] using w) (fun _ _ _ => by simp)
  obtain ⟨st, Hs, ok, w⟩ := h
  simp only [wpE] at w
  refine bindE hC ok w fun r s1 v H1 Hs1 w ok1 f1 r1 n1 => ?_
  obtain ⟨i, e1, w⟩ := w
  cases (show v = _ from ok1.view r1 e1)
  exact ⟨i, rfl, w _ H1 Hs1 ok1 f1 rfl fun a ha => by simp [tmp] at ha⟩
theorem se_not {a : Expr} {pos : Pos} {x : E} (ha : SE T k X Y a x) : SE T k X Y (.UnaryOp .Not a pos) (.not_ x) := by
  have hC := call_mono T k
  refine ⟨PE.imp (L2.pe_not ha.pe) fun σ H Q h => ?_, PT.imp (L2.pt_not ha.pt) fun σ H Q h => ?_, fun _ _ _ z => by simp at z⟩
  · obtain ⟨st, Hs, ok, w⟩ := h
    simp only [wpE] at w
    refine bindE hC ok w fun r s1 v H1 Hs1 w ok1 f1 r1 n1 => ?_
    obtain ⟨i, e1, w⟩ := w
    cases (show v = _ from ok1.view r1 e1)
    exact ⟨i, rfl, w _ H1 Hs1 ok1 f1 rfl fun a ha => by simp [tmp] at ha⟩
  · obtain ⟨st, Hs, ok, w⟩ := h
    simp only [wpT] at w
    exact bindT hC ok w fun b s1 H1 Hs1 w ok1 f1 => w H1 Hs1 ok1 f1
theorem se_cmp (g : Gh N sc X) {a b : Expr} {pos : Pos} {op : CmpOp} {x y : E} (ha : SE T k X Y a x) (hb : SE T k X Y b y) (hm : behindInMarks op b = false) : SE T k X Y (.Compare a [op] [b] pos) (.cmp op x y) := by
  have hC := call_mono T k
  refine ⟨PE.imp (L2.pe_cmpR (cmpop_R g.un) ha.pe hb.pe hm) fun σ H Q h => ?_, PT.imp (L2.pt_cmpR (cmpop_R g.un) ha.pe hb.pe hm) fun σ H Q h => ?_, fun _ _ _ z => by simp at z⟩
  · obtain ⟨st, Hs, ok, w⟩ := h
    simp only [wpE] at w
    refine bind2 hC ok w fun ra rb s2 v u H2 Hs2 w ok2 f2 r1 r2 => ?_
    obtain ⟨dx, dy, e1, e2, w⟩ := w
    exact ⟨Hs2, dx, dy, ok2.sub, ok2.view r1 e1, ok2.view r2 e2, cmpop_mono (fun z w => w _ H2 Hs2 ok2 f2 rfl fun a ha => by simp [tmp] at ha) w⟩
  · obtain ⟨st, Hs, ok, w⟩ := h
    simp only [wpT] at w
    refine bind2 hC ok w fun ra rb s2 v u H2 Hs2 w ok2 f2 r1 r2 => ?_
    obtain ⟨dx, dy, e1, e2, w⟩ := w
    exact ⟨Hs2, dx, dy, ok2.sub, ok2.view r1 e1, ok2.view r2 e2, cmpop_mono (fun z w => ⟨z, rfl, w H2 Hs2 ok2 f2⟩) w⟩
theorem se_chn (g : Gd T k gs N sc X Y) {a b c : Expr} {pos : Pos} {o1 o2 : CmpOp} {x y z : E} (ha : SE T k X Y a x) (hb : SE T k X Y b y) (hc : SE T k X Y c z) (hm : lastMarks [o1, o2] [b, c] = false) : SE T k X Y (.Compare a [o1, o2] [b, c] pos) (.chn o1 o2 x y z) := by
  have hC := call_mono T k
  refine ⟨PE.imp (L2.pe_chain (cmpop_R (room_cu g.room)) (cmpop_R (room_cu g.room)) ha.pe hb.pe hc.pe hm) fun σ H Q h => ?_, PT.imp (L2.pt_chain (cmpop_R (room_cu g.room)) (cmpop_R (room_cu g.room)) ha.pe hb.pe hc.pe hm) fun σ H Q h => ?_, fun _ _ _ z => by simp at z⟩
  · obtain ⟨st, Hs, ok, w⟩ := h
    simp only [wpE] at w
    refine bind2 hC ok w fun ra rb s2 v u H2 Hs2 w ok2 f2 r1 r2 => ?_
    obtain ⟨dx, dy, e1, e2, w⟩ := w
    refine ⟨Hs2, dx, dy, ok2.sub, ok2.view r1 e1, ok2.view r2 e2, cmpop_mono (fun z w => ⟨z, rfl, ?_⟩) w⟩
    cases z with
    | false => exact w _ H2 Hs2 ok2 f2 rfl fun a ha => by simp [tmp] at ha
    | true =>
      refine bindE hC ok2 w fun rc s3 w3 H3 Hs3 w ok3 f3 r3 n3 => ?_
      obtain ⟨dy', dw, e3, e4, w⟩ := w
      exact ⟨Hs3, dy', dw, ok3.sub, ok3.view (r2.lift f3) e3, ok3.view r3 e4, cmpop_mono (fun z w => w _ H3 Hs3 ok3 (f2.trans f3) rfl fun a ha => by simp [tmp] at ha) w⟩
  · obtain ⟨st, Hs, ok, w⟩ := h
    simp only [wpT] at w
    refine bind2 hC ok w fun ra rb s2 v u H2 Hs2 w ok2 f2 r1 r2 => ?_
    obtain ⟨dx, dy, e1, e2, w⟩ := w
    refine ⟨Hs2, dx, dy, ok2.sub, ok2.view r1 e1, ok2.view r2 e2, cmpop_mono (fun z w => ⟨z, rfl, ?_⟩) w⟩
    cases z with
    | false => exact ⟨false, rfl, w H2 Hs2 ok2 f2⟩
    | true =>
      refine bindE hC ok2 w fun rc s3 w3 H3 Hs3 w ok3 f3 r3 n3 => ?_
      obtain ⟨dy', dw, e3, e4, w⟩ := w
      exact ⟨Hs3, dy', dw, ok3.sub, ok3.view (r2.lift f3) e3, ok3.view r3 e4, cmpop_mono (fun z w => ⟨z, rfl, w H3 Hs3 ok3 (f2.trans f3)⟩) w⟩
theorem se_one {op : BoolOp} {a : Expr} {pos : Pos} {x : E} (ha : SE T k X Y a x) : SE T k X Y (.BoolOp op [a] pos) x := by
  have w : PW X (.BoolOp op [a] pos) (TrT (call T k) Y x) := by
    cases op with
    | And => exact L2.pw_and1 ha.pt
    | Or => exact L2.pw_or1 ha.pt
  exact ⟨L2.pe_one ha.pe, PT.ofW w, fun op' es p z => by cases z; exact w⟩
theorem se_and {a b : Expr} {rest : List Expr} {pos : Pos} {x y : E} (ha : SE T k X Y a x) (hb : SE T k X Y (.BoolOp .And (b :: rest) pos) y) : SE T k X Y (.BoolOp .And (a :: b :: rest) pos) (.and_ x y) := by
  have hC := call_mono T k
  have w : PW X (.BoolOp .And (a :: b :: rest) pos) (TrT (call T k) Y (.and_ x y)) := by
    refine PW.imp (L2.pw_and ha.pt (hb.pw _ _ _ rfl)) fun σ H Q h => ?_
    obtain ⟨st, Hs, ok, w⟩ := h
    simp only [wpT] at w
    refine bindT hC ok w fun c s1 H1 Hs1 w ok1 f1 => ?_
    cases c with
    | false => exact w H1 Hs1 ok1 f1
    | true => exact bindT hC ok1 w fun c s2 H2 Hs2 w ok2 f2 => w H2 Hs2 ok2 (f1.trans f2)
  refine ⟨PE.imp (L2.pe_and ha.pe hb.pe) fun σ H Q h => ?_, PT.ofW w, fun op' es p z => by cases z; exact w⟩
  obtain ⟨st, Hs, ok, w⟩ := h
  simp only [wpE] at w
  refine bindE hC ok w fun r s1 v H1 Hs1 w ok1 f1 r1 n1 => ?_
  obtain ⟨c, e1, w⟩ := w
  cases (show v = _ from ok1.view r1 e1)
  refine ⟨c, rfl, ?_⟩
  cases c with
  | false => exact w _ H1 Hs1 ok1 f1 rfl fun a ha => by simp [tmp] at ha
  | true => exact bindE hC ok1 w fun r s2 v H2 Hs2 w ok2 f2 r2 n2 => w v H2 Hs2 ok2 (f1.trans f2) r2 (n2.back f1)
theorem se_or {a b : Expr} {rest : List Expr} {pos : Pos} {x y : E} (ha : SE T k X Y a x) (hb : SE T k X Y (.BoolOp .Or (b :: rest) pos) y) : SE T k X Y (.BoolOp .Or (a :: b :: rest) pos) (.or_ x y) := by
  have hC := call_mono T k
  have w : PW X (.BoolOp .Or (a :: b :: rest) pos) (TrT (call T k) Y (.or_ x y)) := by
    refine PW.imp (L2.pw_or ha.pt (hb.pw _ _ _ rfl)) fun σ H Q h => ?_
    obtain ⟨st, Hs, ok, w⟩ := h
    simp only [wpT] at w
    refine bindT hC ok w fun c s1 H1 Hs1 w ok1 f1 => ?_
    cases c with
    | true => exact w H1 Hs1 ok1 f1
    | false => exact bindT hC ok1 w fun c s2 H2 Hs2 w ok2 f2 => w H2 Hs2 ok2 (f1.trans f2)
  refine ⟨PE.imp (L2.pe_or ha.pe hb.pe) fun σ H Q h => ?_, PT.ofW w, fun op' es p z => by cases z; exact w⟩
  obtain ⟨st, Hs, ok, w⟩ := h
  simp only [wpE] at w
  refine bindE hC ok w fun r s1 v H1 Hs1 w ok1 f1 r1 n1 => ?_
  obtain ⟨c, e1, w⟩ := w
  cases (show v = _ from ok1.view r1 e1)
  refine ⟨c, rfl, ?_⟩
  cases c with
  | true => exact w _ H1 Hs1 ok1 f1 rfl fun a ha => by simp [tmp] at ha
  | false => exact bindE hC ok1 w fun r s2 v H2 Hs2 w ok2 f2 r2 n2 => w v H2 Hs2 ok2 (f1.trans f2) r2 (n2.back f1)
theorem se_ite {c a b : Expr} {pos : Pos} {z x y : E} (hc : SE T k X Y c z) (ha : SE T k X Y a x) (hb : SE T k X Y b y) : SE T k X Y (.IfExp c a b pos) (.ite z x y) := by
  have hC := call_mono T k
  refine ⟨PE.imp (L2.pe_ifExp hc.pt ha.pe hb.pe) fun σ H Q h => ?_, PT.imp (pt_if hc.pt ha.pt hb.pt) fun σ H Q h => ?_, fun _ _ _ z => by simp at z⟩
  · obtain ⟨st, Hs, ok, w⟩ := h
    simp only [wpE] at w
    refine bindT hC ok w fun c s1 H1 Hs1 w ok1 f1 => ?_
    cases c with
    | true => exact bindE hC ok1 w fun r s2 v H2 Hs2 w ok2 f2 r2 n2 => w v H2 Hs2 ok2 (f1.trans f2) r2 (n2.back f1)
    | false => exact bindE hC ok1 w fun r s2 v H2 Hs2 w ok2 f2 r2 n2 => w v H2 Hs2 ok2 (f1.trans f2) r2 (n2.back f1)
  · obtain ⟨st, Hs, ok, w⟩ := h
    simp only [wpT] at w
    refine bindT hC ok w fun c s1 H1 Hs1 w ok1 f1 => ?_
    cases c with
    | true => exact bindT hC ok1 w fun c s2 H2 Hs2 w ok2 f2 => w H2 Hs2 ok2 (f1.trans f2)
    | false => exact bindT hC ok1 w fun c s2 H2 Hs2 w ok2 f2 => w H2 Hs2 ok2 (f1.trans f2)
theorem se_tup {es : List Expr} {kk : Nat} {pos : Pos} {a : E} (h : PA X es (TrA (call T k) Y a)) : SE T k X Y (.Tuple es kk pos) (.tup a) := by
  have hC := call_mono T k
  refine SE.mk' (PE.imp (L2.pe_tup h) fun σ H Q h => ?_) (fun _ => rfl) (fun st Q w => by simpa only [wpT] using w) (fun _ _ _ => by simp)
  obtain ⟨st, Hs, ok, w⟩ := h
  simp only [wpE] at w
  refine bindA hC ok w fun rs s1 vs H1 Hs1 w ok1 f1 r1 n1 => ?_
  obtain ⟨xs, s2, e, l, w⟩ := w
  obtain ⟨Hs2, ok2, f2, sh, _⟩ := frozAll_ok f1 ok1 f1 r1 n1 e
  refine ⟨by rw [← line_eq, ← sh.len]; exact l, fun p hp => ?_⟩
  obtain ⟨ok3, f3, r3, n3⟩ := ok2.grow (Grow.tup ok2.sub hp sh)
  exact w _ _ _ ok3 (f2.trans f3) r3 (n3.back f2)
theorem se_lst {es : List Expr} {pos : Pos} {a : E} (h : PA X es (TrA (call T k) Y a)) : SE T k X Y (.List es pos) (.lst a) := by
  have hC := call_mono T k
  refine SE.mk' (PE.imp (L2.pe_lst h) fun σ H Q h => ?_) (fun _ => rfl) (fun st Q w => by simpa only [wpT] using w) (fun _ _ _ => by simp)
  obtain ⟨st, Hs, ok, w⟩ := h
  simp only [wpE] at w
  refine bindA hC ok w fun rs s1 vs H1 Hs1 w ok1 f1 r1 n1 => ?_
  obtain ⟨xs, s2, e, l, w⟩ := w
  obtain ⟨Hs2, ok2, f2, sh, _⟩ := frozAll_ok f1 ok1 f1 r1 n1 e
  refine ⟨by rw [← line_eq, ← sh.len]; exact l, fun p hp => ?_⟩
  obtain ⟨ok3, f3, r3, n3⟩ := ok2.grow (Grow.lst (b := false) hp sh)
  exact w _ _ _ ok3 (f2.trans f3) r3 (n3.back f2)
theorem se_idx (hr : X.A.units + 100 < cLine) {a b : Expr} {pos : Pos} {x y : E} (ha : SE T k X Y a x) (hb : SE T k X Y b y) (hp : L2.PlainIx b) : SE T k X Y (.Subscript a b pos) (.idx x y) := by
  have hC := call_mono T k
  refine SE.mk' (PE.imp (L2.pe_ix (index_R hr) ha.pe hb.pe hp) fun σ H Q h => ?_) (fun _ => rfl) (fun st Q w => by simpa only [wpT] using w) (fun _ _ _ => by simp)
  obtain ⟨st, Hs, ok, w⟩ := h
  simp only [wpE] at w
  refine bind2 hC ok w fun ra rb s2 v u H2 Hs2 w ok2 f2 r1 r2 => ?_
  obtain ⟨dx, dy, e1, e2, w⟩ := w
  exact ⟨Hs2, dx, dy, ok2.sub, ok2.view r1 e1, ok2.view r2 e2, index_mono (fun z w v' sh => w v' H2 Hs2 ok2 f2 sh fun a ha => by simp [tmp] at ha) w⟩
/-- a part of a slice -/
theorem so_of {f : Expr → Option E} {o : Option Expr} {e : E} (ih : ∀ ex e, f ex = some e → SE T k X Y ex e) (h : compOpt f o = some e) : PO X o (TrO (call T k) Y e) := by
  have hC := call_mono T k
  cases o with
  | none =>
    simp only [compOpt, Option.some.injEq] at h
    subst h
    refine PO.imp L2.po_none fun σ H Q h => ?_
    obtain ⟨st, Hs, ok, w⟩ := h
    simp only [wpO] at w
    exact w H Hs ok Fr.refl
  | some ex =>
    have h' : f ex = some e ∧ e ≠ .nop := by
      simp only [compOpt] at h
      split at h
      · cases h
      · rename_i hn
        exact ⟨h, fun z => hn (by rw [h, z])⟩
    refine PO.imp (L2.po_some (ih _ _ h'.1).pe) fun σ H Q q => ?_
    obtain ⟨st, Hs, ok, w⟩ := q
    have nn : ∀ {X0 : Xc} e st Q, wpO (call T k) X0 e st Q → e ≠ .nop → wpE (call T k) X0 e st fun r s1 => ∃ i, view r s1 = some (.int i) ∧ Q (some i) s1 := by
      intro X0 e st Q w ne
      cases e <;> first | exact absurd rfl ne | (simpa only [wpO] using w)
    refine bindE hC ok (nn _ _ _ w h'.2) fun r s1 v H1 Hs1 w ok1 f1 r1 n1 => ?_
    obtain ⟨i, e1, w⟩ := w
    cases (show v = _ from ok1.view r1 e1)
    exact ⟨i, rfl, w H1 Hs1 ok1 f1⟩
end
end Itp

namespace Itp
variable [KF]
open PySem PySem.Spec PyProof.Rows
open L2 (V Hp HO upd upd_same upd_ne ne_of ne_of_none Same Cx Inv OpR CallR MtR IxR SlR PSet TruR Room RelV EP VK SqL SqT Dp DpAll It TI TE TA TT TG TGs TS TO PI PE PT PW PA PG PGs PS PSs PO PTs PIE thn Turn FpOk Itl Itt Its Itr Itc Itv Ite Itz Gl Vis Loc Sp FnOk Binds Ends)
section
variable {T : Tab} {k : Nat} {gs : Gs} {N : List Str} {sc : Scope} {X : Cx} {Y : XP}
theorem se_slc (g : Gd T k gs N sc X Y) {a : Expr} {lo hi : Option Expr} {pos p2 : Pos} {x l h : E} (ha : SE T k X Y a x) (hl : PO X lo (TrO (call T k) Y l)) (hh : PO X hi (TrO (call T k) Y h)) : SE T k X Y (.Subscript a (.Slice lo hi none p2) pos) (.slc x l h) := by
  have hC := call_mono T k
  refine SE.mk' (PE.imp (L2.pe_slice (slice_R g.kk) ha.pe hl hh) fun σ H Q q => ?_) (fun _ => rfl) (fun st Q w => by simpa only [wpT] using w) (fun _ _ _ => by simp)
  obtain ⟨st, Hs, ok, w⟩ := q
  simp only [wpE] at w
  refine bindE hC ok w fun ra s1 v H1 Hs1 w ok1 f1 r1 n1 => ?_
  refine bindO hC ok1 w fun lo s2 H2 Hs2 w ok2 f2 => ?_
  refine bindO hC ok2 w fun hi s3 H3 Hs3 w ok3 f3 => ?_
  obtain ⟨dx, e1, w⟩ := w
  refine ⟨Hs3, dx, ok3.sub, ok3.view ((r1.lift f2).lift f3) e1, slice_mono (fun z w v' H' Hs' g => ?_) w⟩
  obtain ⟨ok4, f4, r4, n4⟩ := ok3.grow g
  exact w v' H' Hs' ok4 (((f1.trans f2).trans f3).trans f4) r4 (n4.back ((f1.trans f2).trans f3))
theorem se_rv {a : Expr} {kk : Nat} {p1 p2 p3 pos : Pos} {x : E} (ha : SE T k X Y a x) : SE T k X Y (.Subscript a (.Slice none none (some (.UnaryOp .USub (.Constant (.int 1) kk p1) p2)) p3) pos) (.rv x) := by
  have hC := call_mono T k
  refine SE.mk' (PE.imp (L2.pe_revL ha.pe) fun σ H Q q => ?_) (fun _ => rfl) (fun st Q w => by simpa only [wpT] using w) (fun _ _ _ => by simp)
  obtain ⟨st, Hs, ok, w⟩ := q
  simp only [wpE] at w
  refine bindE hC ok w fun ra s1 v H1 Hs1 w ok1 f1 r1 n1 => ?_
  obtain ⟨xs, e1, w⟩ := w
  obtain ⟨a, us, rfl, h1, h2⟩ := ok1.view r1 e1
  refine ⟨a, us, rfl, SqL.of h1, fun p hp => ?_⟩
  obtain ⟨ok4, f4, r4, n4⟩ := ok1.grow (Grow.lst (b := false) hp h2.rev)
  exact w _ _ _ ok4 (f1.trans f4) r4 (n4.back f1)
/-- a call of a def of the text -/
theorem se_call (g : Gd T k gs N sc X Y) {n : Nat} (ih : ∀ ex e, compE N gs n sc ex = some e → SE T k X Y ex e) {f : Str} {p pos : Pos} {es : List Expr} {a : E} (hf : f ∈ gs.fns) (hn : nameOk f = true) (hg : isGl sc f = true)
    {lt : List Str} {tl : Bool} (h : compAll (argX lt tl (compE N gs n sc)) es = some a) : SE T k X Y (.Call (.Name f p) es [] pos) (.call f a) := by
  have hC := call_mono T k
  obtain ⟨n1, n2, n3⟩ := nameOk_of hn
  obtain ⟨fa, fd, ps, hm, hk, hb, ⟨F, hF, hnp⟩, ok⟩ := g.tab f hf
  have pa := snd_AF (argX_se ih) (argX_star fun _ _ h => compE_star h) h
  have rd : ∀ σ H Q, TrE (call T k) Y (.call f a) σ H Q → TrA (call T k) Y a σ H fun vs H1 => spF (call T k) f ps.length vs H1 Q (fun _ _ _ => False) := by
    intro σ H Q q
    obtain ⟨st, Hs, ok, w⟩ := q
    simp only [wpE] at w
    refine bindA hC ok w fun rs s1 vs H1 Hs1 w ok1 f1 r1 nf => ?_
    obtain ⟨os, ea, nd, w⟩ := w
    obtain ⟨l1, _⟩ := args_at ea
    refine ⟨?_, os, Hs1, args_noh ea, (args_ok ok1 r1 ea nd).1, hC _ _ _ _ (fun res fin w v H' Hs' cp => ?_) w⟩
    · rw [← r1.len, ← l1, ← hnp]
      cases k with
      | zero => exact w.elim
      | succ k =>
        obtain ⟨F', e, l, _⟩ := w
        rw [hF] at e; cases e
        exact l
    · obtain ⟨s2, eb, w⟩ := w
      obtain ⟨ok2, f2, r2, n2⟩ := call_ok ok1 f1 r1 nf ea nd cp eb
      exact w v H' Hs' ok2 f2 r2 n2
  have pe : PE X (.Call (.Name f p) es [] pos) (TrE (call T k) Y (.call f a)) := by
    cases es with
    | nil =>
      refine PE.imp (pe_go0 ok g.gd g.room (g.gl hg) hm hk hb (fun _ _ _ => False) n1) fun σ H Q q => ?_
      have q := rd σ H Q q
      simp only [compAll, Option.some.injEq] at h
      subst h
      obtain ⟨st, Hs, ok, w⟩ := q
      simp only [wpA] at w
      exact w [] H Hs ok Fr.refl rfl fun a ha => by simp [tmps] at ha
    | cons e es =>
      have st := compAll_starF (argX_star fun _ _ h => compE_star h) h
      refine PE.imp (pe_go ok g.gd g.room (g.gl hg) hm hk hb (fun _ _ _ => False) pa n1 (starEach_of (st e List.mem_cons_self) _ _) (anyStar (fun e' he => st e' (List.mem_cons_of_mem _ he)) _ _)) rd
  exact SE.mk' pe (fun _ => rfl) (fun st Q w => by simpa only [wpT] using w) (fun _ _ _ => by simp)
/-- .. that may raise -/
theorem se_clx (g : Gd T k gs N sc X Y) {n : Nat} (ih : ∀ ex e, compE N gs n sc ex = some e → SE T k X Y ex e) {f : Str} {p pos : Pos} {es : List Expr} {a : E} {gn : Str} (hrz : gs.rz = true) (hf : gs.rs.lookup f = some gn) (hn : nameOk f = true) (hg : isGl sc f = true)
    {lt : List Str} {tl : Bool} (h : compAll (argX lt tl (compE N gs n sc)) es = some a) : SE T k X Y (.Call (.Name f p) es [] pos) (.clx gn a) := by
  have hC := call_mono T k
  obtain ⟨n1, n2, n3⟩ := nameOk_of hn
  have tk := g.tk hrz
  have rt := g.rtab
  obtain ⟨fa, fd, ps, hm, hk, hb, ⟨F, hF, hnp⟩, ok⟩ := rt f gn hf
  have pa := snd_AF (argX_se ih) (argX_star fun _ _ h => compE_star h) h
  have rd : ∀ σ H Q, TrE (call T k) Y (.clx gn a) σ H Q → TrA (call T k) Y a σ H fun vs H1 => spX (call T k) X.mg gs.xrs gn ps.length vs H1 Q fun cls d H' => Y.W cls d σ H' := by
    intro σ H Q q
    obtain ⟨st, Hs, ok, w⟩ := q
    simp only [wpE] at w
    refine bindA hC ok w fun rs s1 vs H1 Hs1 w ok1 f1 r1 nf => ?_
    obtain ⟨os, ea, nd, w⟩ := w
    obtain ⟨l1, _⟩ := args_at ea
    refine ⟨?_, os, Hs1, args_noh ea, (args_ok ok1 r1 ea nd).1, hC _ _ _ _ (fun res fin w => ?_) w⟩
    · rw [← r1.len, ← l1, ← hnp]
      cases k with
      | zero => exact w.elim
      | succ k =>
        obtain ⟨F', e, l, _⟩ := w
        rw [hF] at e; cases e
        exact l
    · obtain ⟨s2, eb, w⟩ := w
      refine excTo_mono (fun c ds w H' Hs' cp => ?_) (fun w v H' Hs' cp => ?_) w
      · obtain ⟨ok2, f2, _, _⟩ := call_ok ok1 f1 r1 nf ea nd cp eb
        have q := w H' Hs' ok2 f2
        rw [g.emg, g.exr]
        exact q
      · obtain ⟨ok2, f2, r2, n2⟩ := call_ok ok1 f1 r1 nf ea nd cp eb
        exact w v H' Hs' ok2 f2 r2 n2
  have pe : PE X (.Call (.Name f p) es [] pos) (TrE (call T k) Y (.clx gn a)) := by
    cases es with
    | nil =>
      refine PE.imp (pe_goX0 ok tk g.gd g.room (g.gl hg) hm hk hb n1) fun σ H Q q => ?_
      have q := rd σ H Q q
      simp only [compAll, Option.some.injEq] at h
      subst h
      obtain ⟨st, Hs, ok, w⟩ := q
      simp only [wpA] at w
      exact w [] H Hs ok Fr.refl rfl fun a ha => by simp [tmps] at ha
    | cons e es =>
      have st := compAll_starF (argX_star fun _ _ h => compE_star h) h
      refine PE.imp (pe_goX ok tk g.gd g.room (g.gl hg) hm hk hb pa n1 (starEach_of (st e List.mem_cons_self) _ _) (anyStar (fun e' he => st e' (List.mem_cons_of_mem _ he)) _ _)) rd
  exact SE.mk' pe (fun _ => rfl) (fun st Q w => by simpa only [wpT] using w) (fun _ _ _ => by simp)
/-- built-in functions and types -/
theorem blt_of {f : Str} {b : B} (h : bltOf f = some b) : f ∈ bltNames ∧ ((∃ id, bVal b = .builtin id) ∨ ∃ t, bVal b = .type t) ∧ bootBuiltins f = some (bVal b) := by
  unfold bltOf at h
  have hd : ∀ y ∈ [(("len" : Str), B.len), ("abs", .abs), ("max", .max), ("min", .min), ("sum", .sum), ("all", .all), ("any", .any), ("int", .int), ("str", .str), ("list", .list), ("tuple", .tuple), ("repr", .repr)], bootBuiltins y.1 = some (bVal y.2) := by
    decide +kernel
  repeat' split at h
  all_goals first
    | (cases h; subst_vars; exact ⟨by decide, by first | exact .inl ⟨_, rfl⟩ | exact .inr ⟨_, rfl⟩, hd (_, _) (by repeat (first | exact List.mem_cons_self | apply List.mem_cons_of_mem))⟩)
    | cases h
theorem blt_lrg {f : Str} {b : B} (h : bltOf f = some b) : b.own = true := by
  unfold bltOf at h
  repeat' split at h
  all_goals first | (cases h; rfl) | cases h
theorem se_blt (g : Gd T k gs N sc X Y) {n : Nat} (ih : ∀ ex e, compE N gs n sc ex = some e → SE T k X Y ex e) {f : Str} {p pos : Pos} {e0 : Expr} {es : List Expr} {b : B} {a : E} (hb : bltOf f = some b) (hn : nameOk f = true) (hg : isGl sc f = true)
    (h : compAll (compE N gs n sc) (e0 :: es) = some a) : SE T k X Y (.Call (.Name f p) (e0 :: es) [] pos) (.blt b a) := by
  have hC := call_mono T k
  obtain ⟨n1, n2, n3⟩ := nameOk_of hn
  obtain ⟨b1, b2, b3⟩ := blt_of hb
  have pa := snd_A ih h
  have st := compAll_star h
  have s1 := starEach_of (st e0 List.mem_cons_self) es X.env
  have s2 := anyStar (fun e' he => st e' (List.mem_cons_of_mem _ he)) pos X.env
  have pe : PE X (.Call (.Name f p) (e0 :: es) [] pos) (L2.tCB (rBlt b) (TrA (call T k) Y a)) := by
    have cr := bltin_R (X := X) (b := b) (blt_lrg hb) g.calm g.gd g.room
    rcases b2 with ⟨id, e⟩ | ⟨t, e⟩
    · rw [e] at cr b3
      exact L2.pe_callB cr (g.gl hg) (g.blt f b1) b3 pa n3 n1 s1 s2
    · rw [e] at cr b3
      exact L2.pe_callTy cr (g.gl hg) (g.blt f b1) b3 pa n3 n1 s1 s2
  refine SE.mk' (PE.imp pe fun σ H Q q => ?_) (fun _ => rfl) (fun st Q w => by simpa only [wpT] using w) (fun _ _ _ => by simp)
  obtain ⟨st, Hs, ok, w⟩ := q
  simp only [wpE] at w
  refine bindA hC ok w fun rs s1 vs H1 Hs1 w ok1 f1 r1 nf => ?_
  obtain ⟨xs, e, w⟩ := w
  refine ⟨Hs1, xs, ok1.sub, RA.views ok1 r1 e, bltin_mono (fun z w v' H' Hs' g => ?_) w⟩
  obtain ⟨ok2, f2, r2, n2⟩ := ok1.grow g
  exact w v' H' Hs' ok2 (f1.trans f2) r2 (n2.back f1)
/-! ### list(range(..)) -/
def tRgA1 (ta : L2.TA) : L2.St → Hp → (Int → Int → Hp → Prop) → Prop := fun σ H Q => ta σ H fun vs H1 => ∃ j : Int, vs = [.int j] ∧ Q 0 j H1
def tRgA2 (ta : L2.TA) : L2.St → Hp → (Int → Int → Hp → Prop) → Prop := fun σ H Q => ta σ H fun vs H1 => ∃ i j : Int, vs = [.int i, .int j] ∧ Q i j H1
theorem prgA1 {a : Expr} {ta : L2.TA} {p pos : Pos} (hg : Gl X "range") (hm : X.mg "range" = none) (ha : PA X [a] ta) (hs : starEach [a] X.env = [(false, eval a X.env)]) :
    L2.PRg X (.Call (.Name "range" p) [a] [] pos) (tRgA1 ta) := by
  intro pins s σ H Q I h
  refine Call_ (L2.ld_blt I hg hm boot_range (PyProof.Rows.callWith_type1 (L2.thn (ha.run pos pins s σ H _ I h) fun us s1 ⟨vs, H1, I1, r1, q1⟩ => ?_) (by rw [hs]; rfl) (by rfl)))
  obtain ⟨j, e, q⟩ := q1
  subst e
  cases r1 with
  | cons r rr =>
    cases rr
    obtain ⟨t, rfl⟩ := r
    exact call_range_1 ⟨_, 0, j, _, _, _, H1, rfl, IsRange.new _ _ _ _ _ _ _, I1.kept fun b u e => Heap.get?_push_of_some _ e, q⟩
theorem prgA2 {a b : Expr} {ta : L2.TA} {p pos : Pos} (hg : Gl X "range") (hm : X.mg "range" = none) (ha : PA X [a, b] ta) (hs : starEach [a, b] X.env = [(false, eval a X.env), (false, eval b X.env)]) (hs2 : starEach [b] X.env = [(false, eval b X.env)]) :
    L2.PRg X (.Call (.Name "range" p) [a, b] [] pos) (tRgA2 ta) := by
  intro pins s σ H Q I h
  refine Call_ (L2.ld_blt I hg hm boot_range (PyProof.Rows.callWith_type1 (L2.thn (ha.run pos pins s σ H _ I h) fun us s1 ⟨vs, H1, I1, r1, q1⟩ => ?_) (by rw [hs, hs2]) (by rw [hs2]; rfl)))
  obtain ⟨i, j, e, q⟩ := q1
  subst e
  cases r1 with
  | cons r rr =>
    cases rr with
    | cons r' rr =>
      cases rr
      obtain ⟨t, rfl⟩ := r
      obtain ⟨t', rfl⟩ := r'
      exact call_range_2 ⟨_, i, j, _, _, _, H1, rfl, IsRange.new _ _ _ _ _ _ _, I1.kept fun b u e => Heap.get?_push_of_some _ e, q⟩
theorem rg_sh (Hs : Hp) (lo : Int) : ∀ l : List Nat, ShA Hs (l.map fun k => D.int (lo + (k : Nat))) (l.map fun k => V.int (lo + (k : Nat)))
  | [] => rfl
  | k :: l => ⟨_, _, rfl, rfl, rg_sh Hs lo l⟩
theorem lrg_of {xs : List D} {Q : O → Prop} (w : bltin .lrg xs Q) : ∃ i j : Int, ((xs = [.int j] ∧ i = 0) ∨ xs = [.int i, .int j]) ∧ RgD i j ∧ Q (.l false (rangeD i (j - i).toNat)) := by
  unfold bltin at w
  split at w
  all_goals first
    | (rename_i h _; cases h; done)
    | (rename_i h; cases h; done)
    | exact w.elim
    | exact ⟨_, _, .inl ⟨rfl, rfl⟩, w⟩
    | exact ⟨_, _, .inr rfl, w⟩
theorem view_len : ∀ {rs : List R} {s : St} {xs : List D}, viewAll rs s = some xs → xs.length = rs.length
  | [], _, _, h => by
    simp only [viewAll, Option.some.injEq] at h
    subst h; rfl
  | r :: rs, s, xs, h => by
    simp only [viewAll] at h
    split at h
    · rename_i x ys h1 h2
      simp only [Option.some.injEq] at h
      subst h
      rw [List.length_cons, List.length_cons, view_len h2]
    · cases h
theorem wpA_cnt {C : Ct} (hC : CtMono C) {X0 : Xc} {f : Expr → Option E} : ∀ {rs : List Expr} {a : E} {s : St} {Q : List R → St → Prop}, compAll f rs = some a → wpA C X0 a s Q → wpA C X0 a s fun us s1 => us.length = rs.length ∧ Q us s1
  | [], a, s, Q, h, w => by
    simp only [compAll, Option.some.injEq] at h
    subst h
    simp only [wpA] at w ⊢
    exact ⟨rfl, w⟩
  | e :: rs, a, s, Q, h, w => by
    simp only [compAll] at h
    split at h
    · rename_i x y h1 h2
      simp only [Option.some.injEq] at h
      subst h
      simp only [wpA] at w ⊢
      exact wpE_mono hC w fun r s1 w => wpA_mono hC (wpA_cnt hC h2 w) fun us s2 w => ⟨by rw [List.length_cons, List.length_cons, w.1], w.2⟩
    · cases h
theorem se_lrg (g : Gd T k gs N sc X Y) {n : Nat} (ih : ∀ ex e, compE N gs n sc ex = some e → SE T k X Y ex e) {f : Str} {p pos : Pos} {es rs : List Expr} {a : E} (hg : isGl sc f = true)
    (hr : lstRg sc gs.fns f es = some rs) (h : compAll (compE N gs n sc) rs = some a) : SE T k X Y (.Call (.Name f p) es [] pos) (.blt .lrg a) := by
  have hC := call_mono T k
  unfold lstRg at hr
  split at hr
  · rename_i r rp rs' rpos
    split at hr
    · rename_i hc
      obtain ⟨rfl, rfl, hgr, _, hlen⟩ := hc
      cases hr
      have pa := snd_A ih h
      have st := compAll_star h
      have bl : ∀ {x : Str}, x ∈ bltNames → X.mg x = none := fun h => g.blt _ h
      match rs, hlen, pa, st, h with
      | [e], _, pa, st, h =>
        have s1 := starEach_of (st e List.mem_cons_self) [] X.env
        have pr := prgA1 (p := rp) (pos := rpos) (g.gl hgr) (bl (by decide)) pa s1
        refine SE.mk' (PE.imp (pe_listRgA g.calm (g.gl hg) (bl (by decide)) pr rfl) fun σ H Q q => ?_) (fun _ => rfl) (fun st Q w => by simpa only [wpT] using w) (fun _ _ _ => by simp)
        obtain ⟨st, Hs, ok, w⟩ := q
        simp only [wpE] at w
        refine bindA hC ok (wpA_cnt hC h w) fun us s1 vs H1 Hs1 w ok1 f1 r1 nf => ?_
        obtain ⟨ul, xs, e, w⟩ := w
        have xl := view_len e
        have hx := RA.views ok1 r1 e
        obtain ⟨i, j, hc, rg, w2⟩ := lrg_of w
        clear w
        rcases hc with ⟨rfl, rfl⟩ | rfl
        · obtain ⟨v, rfl, q⟩ := hx.one
          cases (show v = _ from q)
          refine ⟨j, rfl, rg, fun p hp => ?_⟩
          obtain ⟨ok3, f3, r3, n3⟩ := ok1.grow (Grow.lst (b := false) hp (rg_sh Hs1 0 (List.range (j - 0).toNat)))
          exact w2 _ _ _ ok3 (f1.trans f3) r3 (n3.back f1)
        · rw [ul] at xl; cases xl
      | [e, e'], _, pa, st, h =>
        have s1 := starEach_of (st e List.mem_cons_self) [e'] X.env
        have s2 := starEach_of (st e' (List.mem_cons_of_mem _ List.mem_cons_self)) [] X.env
        have pr := prgA2 (p := rp) (pos := rpos) (g.gl hgr) (bl (by decide)) pa (by rw [s1, s2]; rfl) s2
        refine SE.mk' (PE.imp (pe_listRgA g.calm (g.gl hg) (bl (by decide)) pr rfl) fun σ H Q q => ?_) (fun _ => rfl) (fun st Q w => by simpa only [wpT] using w) (fun _ _ _ => by simp)
        obtain ⟨st, Hs, ok, w⟩ := q
        simp only [wpE] at w
        refine bindA hC ok (wpA_cnt hC h w) fun us s1 vs H1 Hs1 w ok1 f1 r1 nf => ?_
        obtain ⟨ul, xs, e, w⟩ := w
        have xl := view_len e
        have hx := RA.views ok1 r1 e
        obtain ⟨i, j, hc, rg, w2⟩ := lrg_of w
        clear w
        rcases hc with ⟨rfl, rfl⟩ | rfl
        · rw [ul] at xl; cases xl
        · obtain ⟨v, u, rfl, q, q2⟩ := hx.two
          cases (show v = _ from q)
          cases (show u = _ from q2)
          refine ⟨i, j, rfl, rg, fun p hp => ?_⟩
          obtain ⟨ok3, f3, r3, n3⟩ := ok1.grow (Grow.lst (b := false) hp (rg_sh Hs1 i (List.range (j - i).toNat)))
          exact w2 _ _ _ ok3 (f1.trans f3) r3 (n3.back f1)
      | [], hl, _, _, _ => simp at hl
      | _ :: _ :: _ :: _, hl, _, _, _ => simp at hl
    · cases hr
  · cases hr
theorem bb_sorted : bootBuiltins "sorted" = some (.builtin "sorted") := by decide +kernel
theorem bb_isi : bootBuiltins "isinstance" = some (.builtin "isinstance") := by decide +kernel
theorem se_srt (g : Gd T k gs N sc X Y) {p pos : Pos} {e0 : Expr} {x : E} (he : SE T k X Y e0 x) (hns : ∀ a b, e0 ≠ .Starred a b) (hg : isGl sc "sorted" = true) : SE T k X Y (.Call (.Name "sorted" p) [e0] [] pos) (.srt x) := by
  have hC := call_mono T k
  have pa : PA X [e0] (TrA (call T k) Y (.cons x .nil)) := by
    refine PA.imp (L2.pa_cons he.pe L2.pa_nil (starEach_of hns _ _)) fun σ H Q q => ?_
    obtain ⟨st, Hs, ok, w⟩ := q
    simp only [wpA] at w
    refine bindE hC ok w fun r s1 v H1 Hs1 w ok1 f1 r1 n1 => ?_
    exact w [v] H1 Hs1 ok1 f1 ⟨v, [], rfl, r1, rfl, fun a _ => by simp [tmps]⟩ (fun a ha => n1 a (by simpa [tmps] using ha))
  refine SE.mk' (PE.imp (L2.pe_callB (srt_R g.room) (g.gl hg) (g.blt _ (by decide)) bb_sorted pa (by decide) (by decide) (starEach_of hns _ _) rfl) fun σ H Q q => ?_) (fun _ => rfl) (fun st Q w => by simpa only [wpT] using w) (fun _ _ _ => by simp)
  obtain ⟨st, Hs, ok, w⟩ := q
  simp only [wpE] at w
  refine ⟨st, Hs, ok, ?_⟩
  simp only [wpA]
  refine wpE_mono hC w fun r s1 w => ?_
  intro vs H1 Hs1 ok1 f1 r1 n1
  obtain ⟨v, ws, rfl, r1, t, _⟩ := r1
  cases (show ws = [] from t)
  obtain ⟨xs, e, so, w⟩ := w
  obtain ⟨a, us, rfl, h1, h2⟩ := ok1.view r1 e
  refine ⟨Hs1, a, us, xs, rfl, ok1.sub, h1, h2, so, fun ws p sw hp => ?_⟩
  obtain ⟨ok4, f4, r4, n4⟩ := ok1.grow (Grow.lst (b := false) hp sw)
  exact w _ _ _ ok4 (f1.trans f4) r4 (n4.back f1)
theorem se_srr (g : Gd T k gs N sc X Y) {p pos kp cp : Pos} {kk : Nat} {e0 : Expr} {x : E} (he : SE T k X Y e0 x) (hns : ∀ a b, e0 ≠ .Starred a b) (hg : isGl sc "sorted" = true) : SE T k X Y (.Call (.Name "sorted" p) [e0] [⟨some "reverse", .Constant (.bool true) kk cp, kp⟩] pos) (.srr x) := by
  have hC := call_mono T k
  have pa : PA X [e0] (TrA (call T k) Y (.cons x .nil)) := by
    refine PA.imp (L2.pa_cons he.pe L2.pa_nil (starEach_of hns _ _)) fun σ H Q q => ?_
    obtain ⟨st, Hs, ok, w⟩ := q
    simp only [wpA] at w
    refine bindE hC ok w fun r s1 v H1 Hs1 w ok1 f1 r1 n1 => ?_
    exact w [v] H1 Hs1 ok1 f1 ⟨v, [], rfl, r1, rfl, fun a _ => by simp [tmps]⟩ (fun a ha => n1 a (by simpa [tmps] using ha))
  refine SE.mk' (PE.imp (L2.pe_callBK (srr_R g.room) (g.gl hg) (g.blt _ (by decide)) bb_sorted pa (L2.pk_cons L2.pe_bl L2.pk_nil) (by decide) (by decide) (by rw [starEach_of hns]; rfl) (by rw [starEach_of hns]; rfl)) fun σ H Q q => ?_) (fun _ => rfl) (fun st Q w => by simpa only [wpT] using w) (fun _ _ _ => by simp)
  obtain ⟨st, Hs, ok, w⟩ := q
  simp only [wpE] at w
  refine ⟨st, Hs, ok, ?_⟩
  simp only [wpA]
  refine wpE_mono hC w fun r s1 w => ?_
  intro vs H1 Hs1 ok1 f1 r1 n1
  obtain ⟨v, ws, rfl, r1, t, _⟩ := r1
  cases (show ws = [] from t)
  obtain ⟨xs, e, so, w⟩ := w
  obtain ⟨a, us, rfl, h1, h2⟩ := ok1.view r1 e
  refine ⟨Hs1, a, us, xs, rfl, rfl, ok1.sub, h1, h2, so, fun ws p sw hp => ?_⟩
  obtain ⟨ok4, f4, r4, n4⟩ := ok1.grow (Grow.lst (b := false) hp sw)
  exact w _ _ _ ok4 (f1.trans f4) r4 (n4.back f1)
theorem maxd_of {xs : List D} {Q : O → Prop} (w : bltin .maxd xs Q) : ∃ ys ns, xs = [.lst ys] ∧ intsOf ys = some ns ∧ Q (.d (mxI ns)) := by
  unfold bltin at w
  split at w
  all_goals first
    | (rename_i h _; cases h; done)
    | (rename_i h; cases h; done)
    | exact w.elim
    | exact ⟨_, w.choose, rfl, w.choose_spec.1, w.choose_spec.2⟩
theorem mind_of {xs : List D} {Q : O → Prop} (w : bltin .mind xs Q) : ∃ ys ns, xs = [.lst ys] ∧ intsOf ys = some ns ∧ Q (.d (mnI ns)) := by
  unfold bltin at w
  split at w
  all_goals first
    | (rename_i h _; cases h; done)
    | (rename_i h; cases h; done)
    | exact w.elim
    | exact ⟨_, w.choose, rfl, w.choose_spec.1, w.choose_spec.2⟩
theorem bb_max : bootBuiltins "max" = some (.builtin "max") := by decide +kernel
theorem se_Mxd (g : Gd T k gs N sc X Y) {p pos kp cp : Pos} {kk : Nat} {e0 : Expr} {x : E} (he : SE T k X Y e0 x) (hns : ∀ a b, e0 ≠ .Starred a b) (hg : isGl sc "max" = true) : SE T k X Y (.Call (.Name "max" p) [e0] [⟨some "default", .Constant .none kk cp, kp⟩] pos) (.blt .maxd (.cons x .nil)) := by
  have hC := call_mono T k
  have pa : PA X [e0] (TrA (call T k) Y (.cons x .nil)) := by
    refine PA.imp (L2.pa_cons he.pe L2.pa_nil (starEach_of hns _ _)) fun σ H Q q => ?_
    obtain ⟨st, Hs, ok, w⟩ := q
    simp only [wpA] at w
    refine bindE hC ok w fun r s1 v H1 Hs1 w ok1 f1 r1 n1 => ?_
    exact w [v] H1 Hs1 ok1 f1 ⟨v, [], rfl, r1, rfl, fun a _ => by simp [tmps]⟩ (fun a ha => n1 a (by simpa [tmps] using ha))
  refine SE.mk' (PE.imp (L2.pe_callBK (Mxd_R g.calm g.room) (g.gl hg) (g.blt _ (by decide)) bb_max pa (L2.pk_cons L2.pe_non L2.pk_nil) (by decide) (by decide) (by rw [starEach_of hns]; rfl) (by rw [starEach_of hns]; rfl)) fun σ H Q q => ?_) (fun _ => rfl) (fun st Q w => by simpa only [wpT] using w) (fun _ _ _ => by simp)
  obtain ⟨st, Hs, ok, w⟩ := q
  simp only [wpE] at w
  refine bindA hC ok w fun rs s1 vs H1 Hs1 w ok1 f1 r1 nf => ?_
  obtain ⟨xs, e, w⟩ := w
  have hx := RA.views ok1 r1 e
  obtain ⟨ys, ns, rfl, e2, w2⟩ := maxd_of w
  clear w
  obtain ⟨v, rfl, a, ws, rfl, h1, h2⟩ := hx.one
  have e3 := h2.ints _ _ _ e2
  subst e3
  refine ⟨a, ns, rfl, rfl, h1, fun v sh => ?_⟩
  obtain ⟨ok4, f4, r4, n4⟩ := ok1.grow (Grow.sc (sh Hs1))
  exact w2 _ _ _ ok4 (f1.trans f4) r4 (n4.back f1)
theorem bb_min : bootBuiltins "min" = some (.builtin "min") := by decide +kernel
theorem se_Mnd (g : Gd T k gs N sc X Y) {p pos kp cp : Pos} {kk : Nat} {e0 : Expr} {x : E} (he : SE T k X Y e0 x) (hns : ∀ a b, e0 ≠ .Starred a b) (hg : isGl sc "min" = true) : SE T k X Y (.Call (.Name "min" p) [e0] [⟨some "default", .Constant .none kk cp, kp⟩] pos) (.blt .mind (.cons x .nil)) := by
  have hC := call_mono T k
  have pa : PA X [e0] (TrA (call T k) Y (.cons x .nil)) := by
    refine PA.imp (L2.pa_cons he.pe L2.pa_nil (starEach_of hns _ _)) fun σ H Q q => ?_
    obtain ⟨st, Hs, ok, w⟩ := q
    simp only [wpA] at w
    refine bindE hC ok w fun r s1 v H1 Hs1 w ok1 f1 r1 n1 => ?_
    exact w [v] H1 Hs1 ok1 f1 ⟨v, [], rfl, r1, rfl, fun a _ => by simp [tmps]⟩ (fun a ha => n1 a (by simpa [tmps] using ha))
  refine SE.mk' (PE.imp (L2.pe_callBK (Mnd_R g.calm g.room) (g.gl hg) (g.blt _ (by decide)) bb_min pa (L2.pk_cons L2.pe_non L2.pk_nil) (by decide) (by decide) (by rw [starEach_of hns]; rfl) (by rw [starEach_of hns]; rfl)) fun σ H Q q => ?_) (fun _ => rfl) (fun st Q w => by simpa only [wpT] using w) (fun _ _ _ => by simp)
  obtain ⟨st, Hs, ok, w⟩ := q
  simp only [wpE] at w
  refine bindA hC ok w fun rs s1 vs H1 Hs1 w ok1 f1 r1 nf => ?_
  obtain ⟨xs, e, w⟩ := w
  have hx := RA.views ok1 r1 e
  obtain ⟨ys, ns, rfl, e2, w2⟩ := mind_of w
  clear w
  obtain ⟨v, rfl, a, ws, rfl, h1, h2⟩ := hx.one
  have e3 := h2.ints _ _ _ e2
  subst e3
  refine ⟨a, ns, rfl, rfl, h1, fun v sh => ?_⟩
  obtain ⟨ok4, f4, r4, n4⟩ := ok1.grow (Grow.sc (sh Hs1))
  exact w2 _ _ _ ok4 (f1.trans f4) r4 (n4.back f1)
theorem PE.or {X : Cx} {e : Expr} {t t' : TE} (h : PE X e t) (h' : PE X e t') : PE X e (fun σ H Q => t σ H Q ∨ t' σ H Q) := ⟨fun pins s σ H Q I q => q.elim (fun q => h.run pins s σ H Q I q) fun q => h'.run pins s σ H Q I q⟩
theorem ty_of {t : Str} {ty : String} (h : tyOf t = some ty) : ty ∈ tyNames ∧ t ∈ bltNames ∧ bootBuiltins t = some (.type ty) := by
  unfold tyOf at h
  have hd : ∀ y ∈ [(("int" : Str), "int"), ("bool", "bool"), ("str", "str"), ("list", "list"), ("tuple", "tuple"), ("dict", "dict")], bootBuiltins y.1 = some (.type y.2) := by
    decide +kernel
  repeat' split at h
  all_goals first
    | (cases h; subst_vars; exact ⟨by decide, by decide, hd (_, _) (by repeat (first | exact List.mem_cons_self | apply List.mem_cons_of_mem))⟩)
    | cases h
theorem se_isi (g : Gh N sc X) {p pos pt : Pos} {e0 : Expr} {x : E} {t : Str} {ty : String} (he : SE T k X Y e0 x) (hns : ∀ a b, e0 ≠ .Starred a b) (hg : isGl sc "isinstance" = true) (ht : tyOf t = some ty) (hn : nameOk t = true) (hgt : isGl sc t = true) :
    SE T k X Y (.Call (.Name "isinstance" p) [e0, .Name t pt] [] pos) (.isi x ty) := by
  have hC := call_mono T k
  obtain ⟨n1, n2, n3⟩ := nameOk_of hn
  obtain ⟨t1, t2, t3⟩ := ty_of ht
  have pt : PE X (.Name t pt) (L2.tC (.ty ty)) := L2.pe_bltn (g.gl hgt) (g.blt _ t2) t3 rfl n3 n1
  refine SE.mk' (PE.imp (L2.pe_callB (isTy_R t1) (g.gl hg) (g.blt _ (by decide)) bb_isi (L2.pa_cons he.pe (L2.pa_cons pt L2.pa_nil rfl) (starEach_of hns _ _)) (by decide) (by decide) (starEach_of hns _ _) rfl) fun σ H Q q => ?_) (fun _ => rfl) (fun st Q w => by simpa only [wpT] using w) (fun _ _ _ => by simp)
  obtain ⟨st, Hs, ok, w⟩ := q
  simp only [wpE] at w
  refine bindE hC ok w fun r s1 v H1 Hs1 w ok1 f1 r1 n1 => ?_
  obtain ⟨dx, e, w⟩ := w
  exact ⟨Hs1, dx, v, rfl, ok1.sub, ok1.view r1 e, isTy_mono (fun z w => w _ H1 Hs1 ok1 f1 rfl fun a ha => by simp [tmp] at ha) w⟩
theorem se_join {apos cpos p1 : Pos} {e0 : Expr} {x : E} {z : Str} {kk : Nat} (g : Gd T k gs N sc X Y) (hl : (apos.endLine == cpos.line) = true) (he : SE T k X Y e0 x) (hns : ∀ a b, e0 ≠ .Starred a b) :
    SE T k X Y (.Call (.Attribute (.Constant (.str z) kk p1) "join" apos) [e0] [] cpos) (.mth .join (.cst (.str z)) (.cons x .nil)) := by
  have hC := call_mono T k
  have pa : PA X [e0] (TrA (call T k) Y (.cons x .nil)) := by
    refine PA.imp (L2.pa_cons he.pe L2.pa_nil (starEach_of hns _ _)) fun σ H Q q => ?_
    obtain ⟨st, Hs, ok, w⟩ := q
    simp only [wpA] at w
    refine bindE hC ok w fun r s1 v H1 Hs1 w ok1 f1 r1 n1 => ?_
    exact w [v] H1 Hs1 ok1 f1 ⟨v, [], rfl, r1, rfl, fun a _ => by simp [tmps]⟩ (fun a ha => n1 a (by simpa [tmps] using ha))
  refine SE.mk' (PE.imp (L2.pe_bm PySem.F.plainAttrs_str PySem.F.slot_str_join PySem.F.type_str_join join_R L2.pe_str pa rfl (by rw [starEach_of hns]; rfl) hl (starEach_of hns _ _) rfl) fun σ H Q q => ?_) (fun _ => rfl) (fun st Q w => by simpa only [wpT] using w) (fun _ _ _ => by simp)
  obtain ⟨st, Hs, ok, w⟩ := q
  simp only [wpE] at w
  refine ⟨rfl, ?_⟩
  obtain ⟨x0, e0, rc, w⟩ := w
  refine bindA hC ok w fun rs s1 vs H1 Hs1 w ok1 f1 r1 nf => ?_
  obtain ⟨dx, xs, e1, e, w⟩ := w
  cases e1
  refine ⟨Hs1, .str z, xs, ok1.sub, (show RV Hs1 H1 (.str z) (.str z) from rfl), RA.views ok1 r1 e, meth_mono (fun z w v' H' Hs' g => ?_) w⟩
  obtain ⟨ok2, f2, r2, n2⟩ := ok1.grow g
  exact w v' H' Hs' ok2 (f1.trans f2) r2 (n2.back f1)
/-- a method of a value whose type is told when it is there -/
theorem pe_bmT {X : Cx} {o e0 : Expr} {es : List Expr} {name : Str} {apos cpos : Pos} {to : TE} {t : TA} {F : V → Hp → VK → TA → L2.St → Prop} (ho : PE X o to) (ha : PA X (e0 :: es) t)
    (hbase : attributeBase o name X.env (eval o X.env) = eval o X.env)
    (hfew : ((backTo cpos (starEach (e0 :: es) X.env)).all (fun x => !x.1) && (backToKw cpos (keywordEach [] X.env)).all (fun x => x.1.isSome)
      && decide ((e0 :: es).length + ([] : List Keyword).length + (if ([] : List Keyword).isEmpty then 0 else 1) < 30)) = true)
    (hline : (apos.endLine == cpos.line) = true) (hs : starEach (e0 :: es) X.env = (false, eval e0 X.env) :: starEach es X.env) (hplain : (backTo cpos (starEach es X.env)).any (·.1) = false) :
    PE X (.Call (.Attribute o name apos) (e0 :: es) [] cpos) (fun σ H Q => to σ H fun x H1 => ∃ (T0 id : String) (r : V → List V → Hp → VK → Prop), PySem.PlainAttrs T0 ∧ PySem.Slot T0 name id ∧ typeOf (.builtin id) = pure (.type "method_descriptor") ∧ MtR X id r ∧
      L2.tyV X.K T0 x H1 ∧ t σ H1 fun xs H2 => r x xs H2 Q) := by
  refine ⟨fun pins s σ H Q I h => ?_⟩
  refine wpAny_Call_method_late hbase hfew hline rfl (thn (ho.run pins s σ H _ I h) fun v s1 ⟨x, H1, I1, r1, T0, id, r, pa, slot, hty, hm, ty, q1⟩ => ?_)
  obtain ⟨h1, h2⟩ := L2.tyV_is I1 r1 ty
  refine ⟨T0, id, pa, slot, hty, h1, h2, ?_⟩
  have hA := ha.run cpos pins s1 σ H1 _ I1 q1
  rw [hs] at hA ⊢
  refine Calls.callWith_builtin (by show (false || (backTo cpos (starEach es X.env)).any (·.1)) = false; rw [hplain] <;> rfl) (Calls.evalArgs_plain ?_)
  exact thn hA fun us s2 ⟨vs, H2, I2, r2, q2⟩ => hm pins s2 σ H2 x vs v us Q I2 r1 r2 q2
theorem isCall_base {o : Expr} {m : Str} {env : Env} (h : isCall o = false) (w : Sem Value) : attributeBase o m env w = w := by
  cases o <;> first | (cases h; done) | rfl
/-- o.index(e), o.count(e) of a text or a list -/
theorem se_mp {apos cpos : Pos} {o e0 : Expr} {m : Str} {mp : MP} {y x : E} (g : Gd T k gs N sc X Y) (hl : (apos.endLine == cpos.line) = true) (hm : mpOf m = some mp) (ho : SE T k X Y o y) (he : SE T k X Y e0 x) (hns : ∀ a b, e0 ≠ .Starred a b)
    (hb : isCall o = false) : SE T k X Y (.Call (.Attribute o m apos) [e0] [] cpos) (.mth mp y (.cons x .nil)) := by
  have hC := call_mono T k
  have pa : PA X [e0] (TrA (call T k) Y (.cons x .nil)) := by
    refine PA.imp (L2.pa_cons he.pe L2.pa_nil (starEach_of hns _ _)) fun σ H Q q => ?_
    obtain ⟨st, Hs, ok, w⟩ := q
    simp only [wpA] at w
    refine bindE hC ok w fun r s1 v H1 Hs1 w ok1 f1 r1 n1 => ?_
    exact w [v] H1 Hs1 ok1 f1 ⟨v, [], rfl, r1, rfl, fun a _ => by simp [tmps]⟩ (fun a ha => n1 a (by simpa [tmps] using ha))
  refine SE.mk' (PE.imp (pe_bmT (F := fun _ _ _ _ _ => True) ho.pe pa (isCall_base hb _) (by rw [starEach_of hns]; rfl) hl (starEach_of hns _ _) rfl) fun σ H Q q => ?_) (fun _ => rfl) (fun st Q w => by simpa only [wpT] using w) (fun _ _ _ => by simp)
  obtain ⟨st, Hs, ok, w⟩ := q
  simp only [wpE] at w
  refine bindE hC ok w fun ro s1 v H1 Hs1 w ok1 f1 r1 n1 => ?_
  obtain ⟨x0, e0, rc, w⟩ := w
  have rv0 := ok1.view r1 e0
  have rest : ∀ (pr : V → Prop), pr v → TrA (call T k) Y (.cons x .nil) σ H1 fun xs H2 => pr v ∧ rMeth mp v xs H2 Q := by
    intro pr hp
    refine bindA hC ok1 w fun rs s2 vs H2 Hs2 w ok2 f2 r2 nf => ?_
    obtain ⟨dx, xs, e1, e, w⟩ := w
    refine ⟨hp, Hs2, dx, xs, ok2.sub, ok2.view (r1.lift f2) e1, RA.views ok2 r2 e, meth_mono (fun z w v' H' Hs' g => ?_) w⟩
    obtain ⟨ok3, f3, r3, n3⟩ := ok2.grow g
    exact w v' H' Hs' ok3 ((f1.trans f2).trans f3) r3 (n3.back (f1.trans f2))
  unfold mpOf at hm
  split at hm
  · rename_i em
    subst em
    cases hm
    cases x0 with
    | str z =>
      cases (show v = _ from rv0)
      exact ⟨"str", _, _, PySem.F.plainAttrs_str, PySem.F.slot_str_index, PySem.F.type_str_index, index_RS, rfl, rest (fun v => ∃ z, v = .str z) ⟨z, rfl⟩⟩
    | lst zs =>
      obtain ⟨a, us, rfl, h1, h2⟩ := rv0
      exact ⟨"list", _, _, PySem.F.plainAttrs_list, PySem.F.slot_list_index, PySem.F.type_list_index, index_RL g.room, .inl ⟨rfl, us, SqL.of h1⟩, rest (fun v => ∃ a, v = .ref a) ⟨a, rfl⟩⟩
    | _ => cases rc
  · split at hm
    · rename_i em
      subst em
      cases hm
      cases x0 with
      | str z =>
        cases (show v = _ from rv0)
        exact ⟨"str", _, _, PySem.F.plainAttrs_str, PySem.F.slot_str_count, PySem.F.type_str_count, count_RS, rfl, rest (fun v => ∃ z, v = .str z) ⟨z, rfl⟩⟩
      | _ => cases rc
    · cases hm
theorem type_list_clear' : typeOf (.builtin "list.clear") = pure (.type "method_descriptor") := by show builtinType _ = _; rw [builtinType_eq_fast]; kernel_rfl
theorem type_list_reverse' : typeOf (.builtin "list.reverse") = pure (.type "method_descriptor") := by show builtinType _ = _; rw [builtinType_eq_fast]; kernel_rfl
theorem mu_of {m : Str} {mu : MU} (h : mutOf m = some mu) : PySem.Slot "list" m (mId mu) ∧ typeOf (.builtin (mId mu)) = pure (.type "method_descriptor") := by
  unfold mutOf at h
  repeat' split at h
  all_goals first
    | (cases h; subst_vars; exact ⟨PySem.F.slot_list_append, PySem.F.type_list_append⟩)
    | (cases h; subst_vars; exact ⟨PySem.F.slot_list_pop, PySem.F.type_list_pop⟩)
    | (cases h; subst_vars; exact ⟨PySem.F.slot_list_reverse, type_list_reverse'⟩)
    | (cases h; subst_vars; exact ⟨PySem.F.slot_list_clear, type_list_clear'⟩)
    | (cases h; subst_vars; exact ⟨PySem.F.slot_list_extend, PySem.F.type_list_extend⟩)
    | (cases h; subst_vars; exact ⟨PySem.F.slot_list_insert, PySem.F.type_list_insert⟩)
    | cases h
/-- o.m(..) of a variable's own list -/
theorem se_chg (g : Gd T k gs N sc X Y) {n : Nat} (ih : ∀ ex e, compE N gs n sc ex = some e → SE T k X Y ex e) {x m : Str} {p apos cpos : Pos} {es : List Expr} {mu : MU} {i : Nat} {a : E} (hl : (apos.endLine == cpos.line) = true) (hm : mutOf m = some mu) (hn : nameOk x = true)
    (hv : sc.names.lookup x = some .local ∨ sc.names.lookup x = some .cell ∨ sc.names.lookup x = some .free) (hi : ixOf N x = some i) (hfew : es.length ≤ 2) (h : compAll (compE N gs n sc) es = some a) :
    SE T k X Y (.Call (.Attribute (.Name x p) m apos) es [] cpos) (.chg mu i a) := by
  have hC := call_mono T k
  obtain ⟨n1, n2, n3⟩ := nameOk_of hn
  obtain ⟨m1, m2⟩ := mu_of hm
  have pv : PE X (.Name x p) (L2.tVar i) := L2.pe_var (by rw [g.eqN]; exact ixOf_at hi) (g.vis hv) n1 n2
  -- the list, the arguments; then the change
  have rd : ∀ σ H Q, TrE (call T k) Y (.chg mu i a) σ H Q → ∃ v, σ[i]? = some (some v) ∧ L2.tyV X.K "list" v H ∧ TrA (call T k) Y a σ H fun vs H1 => rMut mu v vs H1 Q := by
    intro σ H Q q
    obtain ⟨st, Hs, ok, w⟩ := q
    simp only [wpE] at w
    obtain ⟨⟨p0, xs0, e0⟩, w⟩ := w
    obtain ⟨v, ev, rp⟩ := ok.rep i _ e0
    refine ⟨v, ev, ?_, ?_⟩
    · obtain ⟨b, us, rfl, h1, _⟩ := rp
      exact .inl ⟨rfl, us, SqL.of h1⟩
    · refine bindA hC ok w fun rs s1 vs H1 Hs1 w ok1 f1 r1 nf => ?_
      obtain ⟨ds, s2, ef, p, xs, e2, w⟩ := w
      obtain ⟨Hs2, ok2, f2, sh, _⟩ := frozAll_ok f1 ok1 f1 r1 nf ef
      obtain ⟨b, us, rfl, h1, h2, h3⟩ := ok2.lst_at e2 ev
      refine ⟨Hs2, b, us, xs, ds, rfl, ok2.sub, h1, h2, sh, muta_mono (fun z ys w v' ws sz sy => ?_) w⟩
      obtain ⟨ok3, f3⟩ := ok2.chg e2 ev h1 sy
      exact w v' _ Hs2 ok3 (f2.trans f3) sz fun a ha => by simp [tmp] at ha
  have pe : PE X (.Call (.Attribute (.Name x p) m apos) es [] cpos) (TrE (call T k) Y (.chg mu i a)) := by
    match es, hfew with
    | [], _ =>
      refine PE.imp (L2.pe_bm0 PySem.F.plainAttrs_list m1 m2 muta_R pv rfl hl) fun σ H Q q => ?_
      obtain ⟨v, ev, ty, w⟩ := rd σ H Q q
      refine ⟨v, ev, ty, ?_⟩
      simp only [compAll, Option.some.injEq] at h
      subst h
      obtain ⟨st, Hs, ok, w⟩ := w
      simp only [wpA] at w
      exact w [] H Hs ok Fr.refl rfl fun a ha => by simp [tmps] at ha
    | [e0], _ =>
      have st := compAll_star h e0 (by simp)
      refine PE.imp (L2.pe_bm PySem.F.plainAttrs_list m1 m2 muta_R pv (snd_A ih h) rfl (by rw [starEach_of st]; rfl) hl (starEach_of st _ _) rfl) fun σ H Q q => ?_
      obtain ⟨v, ev, ty, w⟩ := rd σ H Q q
      exact ⟨v, ev, ty, w⟩
    | [e0, e1], _ =>
      have st := compAll_star h e0 (by simp)
      have st1 := compAll_star h e1 (by simp)
      refine PE.imp (L2.pe_bm PySem.F.plainAttrs_list m1 m2 muta_R pv (snd_A ih h) rfl (by rw [starEach_of st, starEach_of st1]; rfl) hl (starEach_of st _ _) (by rw [starEach_of st1]; rfl)) fun σ H Q q => ?_
      obtain ⟨v, ev, ty, w⟩ := rd σ H Q q
      exact ⟨v, ev, ty, w⟩
  exact SE.mk' pe (fun _ => rfl) (fun st Q w => by simpa only [wpT] using w) (fun _ _ _ => by simp)
end
end Itp

/-! Reg: cells of the region: made, changed, lent. -/
namespace Itp
variable [KF]
open PySem PySem.Spec PyProof.Rows
open L2 (V Hp HO upd upd_same upd_ne ne_of ne_of_none Same Cx Inv OpR CallR MtR IxR SlR PSet TruR Room RelV EP VK SqL SqT Dp DpAll It TI TE TA TT TG TS TO PI PE PT PW PA PG PS PSs PO PTs PIE thn Turn FpOk Itl Itt Its Itr Itc Itv Ite Itz Gl Vis Loc Sp FnOk Binds Ends kV)
section
variable {α : Type} {s : St} {h j : Nat}
theorem regK_ex {Q : List (Addr × D) → List Nat → Prop} (w : regK h s Q) : ∃ M L, s[h]? = some (some (.h M L)) ∧ Q M L := by
  unfold regK at w
  split at w
  · exact ⟨_, _, by assumption, w⟩
  · exact w.elim
theorem newC_ex {x : D} {Q : Addr → St → Prop} (w : newC h x s Q) : ∃ M L, s[h]? = some (some (.h M L)) ∧ ∀ a, Q a (s.set h (some (.h (M ++ [(a, x)]) L))) := by
  obtain ⟨M, L, e, w⟩ := regK_ex w
  exact ⟨M, L, e, fun a => by have := w a; rwa [setK_eq] at this⟩
theorem putC_ex {x : D} {Q : St → Prop} (w : putC h j x s Q) : ∃ M L a y, s[h]? = some (some (.h M L)) ∧ M[j]? = some (a, y) ∧ j ∉ L ∧ Q (s.set h (some (.h (M.set j (a, x)) L))) := by
  obtain ⟨M, L, e, w⟩ := regK_ex w
  split at w
  · rename_i a y q
    rw [setK_eq] at w
    exact ⟨M, L, a, y, e, q, by simpa using w.1, w.2⟩
  · exact w.elim
theorem cellAt_ex {a : Addr} {x : D} (e : cellAt s h j = some (a, x)) : ∃ M L, s[h]? = some (some (.h M L)) ∧ M[j]? = some (a, x) := by
  unfold cellAt at e
  split at e
  · exact ⟨_, _, by assumption, e⟩
  · cases e
theorem cellK_ex {Q : D → Prop} (w : cellK h j s Q) : ∃ a x, cellAt s h j = some (a, x) ∧ Q x := by
  unfold cellK at w
  split at w
  · exact ⟨_, _, by assumption, w⟩
  · exact w.elim
theorem isC_ex {r : R} {Q : Nat → Prop} (w : isC r h Q) : ∃ a j, r = .c h a j ∧ Q j := by
  unfold isC at w
  split at w
  · obtain ⟨rfl, q⟩ := w
    exact ⟨_, _, rfl, q⟩
  · exact w.elim
end
section
variable {σ σ0 σ1 σ2 : L2.St} {st st0 st1 st2 : St} {Hs H Hs0 H0 Hs1 H1 Hs2 H2 Hs' H' : Hp}
theorem snoc_at {α : Type} {M : List α} {c d : α} {n : Nat} (e : (M ++ [c])[n]? = some d) : M[n]? = some d ∨ (n = M.length ∧ d = c) := by
  by_cases hn : n < M.length
  · rw [List.getElem?_append_left hn] at e; exact .inl e
  · rw [List.getElem?_append_right (by omega)] at e
    have : n - M.length = 0 := by
      by_cases z : n - M.length = 0
      · exact z
      · rw [List.getElem?_eq_none (by simp; omega)] at e; cases e
    rw [this] at e
    simp at e
    exact .inr ⟨by omega, e.symm⟩
theorem snoc_old {α : Type} {M : List α} {c d : α} {n : Nat} (e : M[n]? = some d) : (M ++ [c])[n]? = some d := by
  rw [List.getElem?_append_left (List.getElem?_eq_some_iff.mp e).1]; exact e
/-- a new cell -/
theorem Ok.addC (k : Ok σ st Hs H) (f : Fr σ0 st0 Hs0 H0 σ st Hs H) {h : Nat} {M : List (Addr × D)} {L : List Nat} {a : Addr} {x : D} (e : st[h]? = some (some (.h M L))) (nh : ¬ Hel σ st a) (hs : Hs a = none) (c : CellR Hs H a x) (fr : Own σ0 st0 a ∨ H0 a = none) :
    Ok σ (st.set h (some (.h (M ++ [(a, x)]) L))) Hs H ∧ Fr σ0 st0 Hs0 H0 σ (st.set h (some (.h (M ++ [(a, x)]) L))) Hs H := by
  have hh : ∀ {i : Nat} {o : O}, (st.set h (some (.h (M ++ [(a, x)]) L)))[i]? = some (some o) → (∀ M L, o ≠ .h M L) → st[i]? = some (some o) := fun {i o} q n => by
    rcases set_cases q with ⟨_, z⟩ | ⟨_, q⟩
    · cases z; exact absurd rfl (n _ _)
    · exact q
  have hr : ∀ {i : Nat} {M' : List (Addr × D)} {L' : List Nat}, (st.set h (some (.h (M ++ [(a, x)]) L)))[i]? = some (some (.h M' L')) → ∃ M0, st[i]? = some (some (.h M0 L')) ∧ ∀ (n : Nat) (b : Addr) (y : D), M'[n]? = some (b, y) → M0[n]? = some (b, y) ∨ (i = h ∧ M0 = M ∧ n = M.length ∧ b = a ∧ y = x) := fun {i M' L'} q => by
    rcases set_cases q with ⟨rfl, z⟩ | ⟨_, q⟩
    · cases z
      refine ⟨M, e, fun n b y q => ?_⟩
      rcases snoc_at q with q | ⟨q1, q2⟩
      · exact .inl q
      · cases q2; exact .inr ⟨rfl, rfl, q1, rfl, rfl⟩
    · exact ⟨M', q, fun n b y q => .inl q⟩
  have hb : h < st.length := (List.getElem?_eq_some_iff.mp e).1
  refine ⟨⟨by simpa using k.len, k.sub, fun i o q => ?_, fun i j p xs o b q1 q2 hd q3 q4 => ?_, fun b ⟨i, M', L', n, y, q1, q2⟩ ⟨j, o, q3, hd, q4⟩ => ?_, fun i j M1 M2 L1 L2 q1 q2 => ?_⟩, ⟨f.sub, f.keep, f.dom, fun b z => ?_, f.shr, fun i p xs q => ?_, fun i xs q => ?_, fun i xs q => ?_, fun i o q => ?_, by simpa using f.sz, fun i M1 L1 q => ?_, fun i M1 L1 q => ?_⟩⟩
  · rcases set_cases q with ⟨rfl, z⟩ | ⟨_, q⟩
    · cases z
      obtain ⟨v, ev, r⟩ := k.rep i _ e
      refine ⟨v, ev, ⟨fun n b y q => ?_, fun n m b y z q1 q2 => ?_⟩, fun n hn => ?_⟩
      · rcases snoc_at q with q | ⟨q1, q2⟩
        · exact r.1.at_ n b y q
        · cases q2; exact ⟨hs, c⟩
      · rcases snoc_at q1 with q1 | ⟨q1, z1⟩
        · rcases snoc_at q2 with q2 | ⟨q2, z2⟩
          · exact r.1.uniq n m b y z q1 q2
          · cases z2; exact absurd (.inr ⟨i, M, L, n, y, e, q1⟩) nh
        · cases z1
          rcases snoc_at q2 with q2 | ⟨q2, z2⟩
          · exact absurd (.inr ⟨i, M, L, m, z, e, q2⟩) nh
          · omega
      · have := r.2 n hn
        simp; omega
    · exact k.rep i o q
  · exact k.inj i j p xs o b (hh q1 fun _ _ z => by cases z) (hh q2 (held_nh hd)) hd q3 q4
  · obtain ⟨M0, q5, g⟩ := hr q1
    rcases g n b y q2 with g | ⟨_, _, _, rfl, _⟩
    · exact k.apt b ⟨i, M0, L', n, y, q5, g⟩ ⟨j, o, hh q3 (held_nh hd), hd, q4⟩
    · exact nh (.inl ⟨j, o, hh q3 (held_nh hd), hd, q4⟩)
  · obtain ⟨M3, q3, _⟩ := hr q1
    obtain ⟨M4, q4, _⟩ := hr q2
    exact k.one i j _ _ _ _ q3 q4
  · rcases z with ⟨i, p, xs, q1, q2⟩ | ⟨i, M', L', n, y, q1, q2, hn⟩
    · exact f.own b (.inl ⟨i, p, xs, hh q1 (fun _ _ z => by cases z), q2⟩)
    · obtain ⟨M0, q5, g⟩ := hr q1
      rcases g n b y q2 with g | ⟨_, _, _, rfl, _⟩
      · exact f.own b (.inr ⟨i, M0, L', n, y, q5, g, hn⟩)
      · exact fr
  · exact f.kk i p xs (hh q fun _ _ z => by cases z)
  · obtain ⟨q1, q2⟩ := f.kp i xs q
    have ne : i ≠ h := fun z => by subst z; rw [e] at q1; cases q1
    exact ⟨by rw [List.getElem?_set_ne (Ne.symm ne)]; exact q1, q2⟩
  · obtain ⟨ys, q1, q2⟩ := f.lp i xs q
    have ne : i ≠ h := fun z => by subst z; rw [e] at q1; cases q1
    exact ⟨ys, by rw [List.getElem?_set_ne (Ne.symm ne)]; exact q1, q2⟩
  · obtain ⟨o', q1⟩ := f.bd i o q
    by_cases ne : i = h
    · subst ne; exact ⟨_, set_self e⟩
    · exact ⟨o', by rw [List.getElem?_set_ne (Ne.symm ne)]; exact q1⟩
  · obtain ⟨M', q1, g⟩ := f.hp i M1 L1 q
    by_cases ne : i = h
    · subst ne
      rw [e] at q1; cases q1
      refine ⟨_, set_self e, fun n b y w => ?_⟩
      obtain ⟨z, w1, w2⟩ := g n b y w
      exact ⟨z, snoc_old w1, w2⟩
    · exact ⟨M', by rw [List.getElem?_set_ne (Ne.symm ne)]; exact q1, g⟩
  · obtain ⟨M0, q1, g⟩ := hr q
    obtain ⟨M', q2, g2⟩ := f.hq i M0 L1 q1
    refine ⟨M', q2, fun n b y w hn => ?_⟩
    rcases g n b y w with g | ⟨rfl, rfl, rfl, _, _⟩
    · exact g2 n b y g hn
    · exact absurd (k.inL q1 _ hn) (by omega)
/-- a cell is changed -/
theorem Ok.chgC (k : Ok σ st Hs H) {h j : Nat} {M : List (Addr × D)} {L : List Nat} {a : Addr} {x y : D} {ob : HO} (e : st[h]? = some (some (.h M L))) (ej : M[j]? = some (a, x)) (hj : j ∉ L) (c : CellR Hs (upd H a ob) a y) :
    Ok σ (st.set h (some (.h (M.set j (a, y)) L))) Hs (upd H a ob) ∧ Fr σ st Hs H σ (st.set h (some (.h (M.set j (a, y)) L))) Hs (upd H a ob) := by
  have ha : Hs a = none := ((k.rgn e).at_ j a x ej).1
  have hl : HelH st a := ⟨h, M, L, j, x, e, ej⟩
  have ow : Own σ st a := .inr ⟨h, M, L, j, x, e, ej, hj⟩
  have hh : ∀ {i : Nat} {o : O}, (st.set h (some (.h (M.set j (a, y)) L)))[i]? = some (some o) → (∀ M L, o ≠ .h M L) → st[i]? = some (some o) := fun {i o} q n => by
    rcases set_cases q with ⟨_, z⟩ | ⟨_, q⟩
    · cases z; exact absurd rfl (n _ _)
    · exact q
  have mset : ∀ {n : Nat} {b : Addr} {z : D}, (M.set j (a, y))[n]? = some (b, z) → (n = j ∧ b = a ∧ z = y) ∨ (n ≠ j ∧ M[n]? = some (b, z)) := fun {n b z} q => by
    rcases set_cases q with ⟨rfl, w⟩ | ⟨w, q⟩
    · cases w; exact .inl ⟨rfl, rfl, rfl⟩
    · exact .inr ⟨w, q⟩
  have hr : ∀ {i : Nat} {M' : List (Addr × D)} {L' : List Nat}, (st.set h (some (.h (M.set j (a, y)) L)))[i]? = some (some (.h M' L')) → ∃ M0, st[i]? = some (some (.h M0 L')) ∧ ∀ (n : Nat) (b : Addr) (z : D), M'[n]? = some (b, z) → ∃ z', M0[n]? = some (b, z') := fun {i M' L'} q => by
    rcases set_cases q with ⟨rfl, z⟩ | ⟨_, q⟩
    · cases z
      refine ⟨M, e, fun n b z q => ?_⟩
      rcases mset q with ⟨rfl, rfl, rfl⟩ | ⟨_, q⟩
      · exact ⟨x, ej⟩
      · exact ⟨z, q⟩
    · exact ⟨M', q, fun n b y q => ⟨y, q⟩⟩
  refine ⟨⟨by simpa using k.len, fun b z q => ?_, fun i o q => ?_, fun i j' p xs o b q1 q2 hd q3 q4 => ?_, fun b ⟨i, M', L', n, z, q1, q2⟩ ⟨j', o, q3, hd, q4⟩ => ?_, fun i j' M1 M2 L1 L2 q1 q2 => ?_⟩, ⟨fun _ _ h => h, fun b o q n => ?_, fun b z => upd_none z, fun b z => .inl ?_, fun b z _ _ => z, fun i p xs q => ⟨hh q (fun _ _ z => by cases z), rfl⟩, fun i xs q => ?_, fun i xs q => ?_, fun i o q => ?_, by simp, fun i M1 L1 q => ?_, fun i M1 L1 q => ?_⟩⟩
  · rw [upd_ne (fun w => by subst w; rw [ha] at q; cases q)]; exact k.sub b z q
  · cases o with
    | h M' L' =>
      rcases set_cases q with ⟨rfl, z⟩ | ⟨ne, q⟩
      · cases z
        obtain ⟨v, ev, r⟩ := k.rep i _ e
        refine ⟨v, ev, ⟨fun n b z q => ?_, fun n m b z z' q1 q2 => ?_⟩, fun n hn => by simpa using r.2 n hn⟩
        · rcases mset q with ⟨rfl, rfl, rfl⟩ | ⟨ne, q⟩
          · exact ⟨ha, c⟩
          · obtain ⟨g1, g2⟩ := r.1.at_ n b z q
            have nb : b ≠ a := fun w => ne (r.1.uniq n j b z x q (by rw [w]; exact ej))
            refine ⟨g1, g2.to (fun _ _ q => q) fun o w => ?_⟩
            rw [upd_ne nb]
            exact w
        · have o1 : ∃ w, M[n]? = some (b, w) := by
            rcases mset q1 with ⟨rfl, rfl, rfl⟩ | ⟨ne, q⟩
            · exact ⟨x, ej⟩
            · exact ⟨_, q⟩
          have o2 : ∃ w, M[m]? = some (b, w) := by
            rcases mset q2 with ⟨rfl, rfl, rfl⟩ | ⟨ne, q⟩
            · exact ⟨x, ej⟩
            · exact ⟨_, q⟩
          obtain ⟨w1, o1⟩ := o1
          obtain ⟨w2, o2⟩ := o2
          exact r.1.uniq n m b w1 w2 o1 o2
      · exact absurd (k.one i h _ _ _ _ q e) ne
    | d z =>
      obtain ⟨v, ev, r⟩ := k.rep i _ (hh q fun _ _ z => by cases z)
      exact ⟨v, ev, r⟩
    | l p zs =>
      have q' := hh q fun _ _ z => by cases z
      obtain ⟨v, ev, b, bs, rfl, r1, r2, r3⟩ := k.rep i _ q'
      have nb : b ≠ a := fun z => k.apt a hl ⟨i, _, q', rfl, by rw [← z]; exact ev⟩
      exact ⟨_, ev, b, bs, rfl, by rw [upd_ne nb]; exact r1, r2, r3⟩
    | k p zs =>
      have q' := hh q fun _ _ z => by cases z
      obtain ⟨v, ev, b, bs, rfl, r1, r2, r3⟩ := k.rep i _ q'
      have nb : b ≠ a := fun z => k.apt a hl ⟨i, _, q', rfl, by rw [← z]; exact ev⟩
      exact ⟨_, ev, b, bs, rfl, by rw [upd_ne nb]; exact r1, r2, r3⟩
  · exact k.inj i j' p xs o b (hh q1 fun _ _ z => by cases z) (hh q2 (held_nh hd)) hd q3 q4
  · obtain ⟨M0, q5, g⟩ := hr q1
    obtain ⟨z', g⟩ := g n b z q2
    exact k.apt b ⟨i, M0, L', n, z', q5, g⟩ ⟨j', o, hh q3 (held_nh hd), hd, q4⟩
  · obtain ⟨M3, q3, _⟩ := hr q1
    obtain ⟨M4, q4, _⟩ := hr q2
    exact k.one i j' _ _ _ _ q3 q4
  · rw [upd_ne (fun z => n (by rw [z]; exact ow))]; exact q
  · rcases z with ⟨i, p, xs, q1, q2⟩ | ⟨i, M', L', n, z, q1, q2, hn⟩
    · exact .inl ⟨i, p, xs, hh q1 (fun _ _ z => by cases z), q2⟩
    · obtain ⟨M0, q5, g⟩ := hr q1
      obtain ⟨z', g⟩ := g n b z q2
      exact .inr ⟨i, M0, L', n, z', q5, g, hn⟩
  · have ne : i ≠ h := fun z => by subst z; rw [e] at q; cases q
    exact ⟨by rw [List.getElem?_set_ne (Ne.symm ne)]; exact q, rfl⟩
  · have ne : i ≠ h := fun z => by subst z; rw [e] at q; cases q
    exact ⟨xs, by rw [List.getElem?_set_ne (Ne.symm ne)]; exact q, rfl⟩
  · by_cases ne : i = h
    · subst ne; exact ⟨_, set_self e⟩
    · exact ⟨o, by rw [List.getElem?_set_ne (Ne.symm ne)]; exact q⟩
  · by_cases ne : i = h
    · subst ne
      rw [e] at q; cases q
      refine ⟨_, set_self e, fun n b z w => ?_⟩
      by_cases hn : n = j
      · subst hn
        rw [ej] at w; cases w
        exact ⟨y, by rw [List.getElem?_set_self (List.getElem?_eq_some_iff.mp ej).1], fun w => absurd w hj⟩
      · exact ⟨z, by rw [List.getElem?_set_ne (Ne.symm hn)]; exact w, fun _ => rfl⟩
    · exact ⟨M1, by rw [List.getElem?_set_ne (Ne.symm ne)]; exact q, fun _ _ z w => ⟨z, w, fun _ => rfl⟩⟩
  · obtain ⟨M0, q5, g⟩ := hr q
    exact ⟨M0, q5, fun n b z w _ => g n b z w⟩
/-- a variable's own list is let go, to be a cell -/
theorem Ok.letgo (k : Ok σ st Hs H) {i : Nat} {xs : List D} {a : Addr} (e : st[i]? = some (some (.l false xs))) (ev : σ[i]? = some (some (.ref a))) :
    Ok σ (st.set i (some (.d (.ref a)))) Hs H ∧ Fr σ st Hs H σ (st.set i (some (.d (.ref a)))) Hs H ∧ ¬ Hel σ (st.set i (some (.d (.ref a)))) a := by
  have hl : HelS σ st a := ⟨i, _, e, rfl, ev⟩
  have hh : ∀ {j : Nat} {o : O}, (st.set i (some (.d (.ref a))))[j]? = some (some o) → (j = i ∧ o = .d (.ref a)) ∨ (j ≠ i ∧ st[j]? = some (some o)) := fun {j o} q => by
    rcases set_cases q with ⟨rfl, z⟩ | ⟨ne, q⟩
    · cases z; exact .inl ⟨rfl, rfl⟩
    · exact .inr ⟨ne, q⟩
  refine ⟨⟨by simpa using k.len, k.sub, fun j o q => ?_, fun j j' p ys o b q1 q2 hd q3 q4 => ?_, fun b ⟨j, M, L, n, z, q1, q2⟩ ⟨j', o, q3, hd, q4⟩ => ?_, fun j j' M1 M2 L1 L2 q1 q2 => ?_⟩, ⟨fun _ _ h => h, fun _ _ h _ => h, fun _ h => h, fun b z => .inl ?_, fun _ h _ _ => h, fun j p ys q => ?_, fun j ys q => ?_, fun j ys q => ?_, fun j o q => ?_, by simp, fun j M L q => ?_, fun j M L q => ?_⟩, fun z => ?_⟩
  · rcases hh q with ⟨rfl, rfl⟩ | ⟨_, q⟩
    · exact ⟨_, ev, rfl⟩
    · exact k.rep j o q
  · rcases hh q1 with ⟨_, z⟩ | ⟨_, q1⟩
    · cases z
    · rcases hh q2 with ⟨_, z⟩ | ⟨_, q2⟩
      · subst z; cases hd
      · exact k.inj j j' p ys o b q1 q2 hd q3 q4
  · rcases hh q1 with ⟨_, z⟩ | ⟨_, q1⟩
    · cases z
    · rcases hh q3 with ⟨_, z⟩ | ⟨_, q3⟩
      · subst z; cases hd
      · exact k.apt b ⟨j, M, L, n, z, q1, q2⟩ ⟨j', o, q3, hd, q4⟩
  · rcases hh q1 with ⟨_, z⟩ | ⟨_, q1⟩
    · cases z
    · rcases hh q2 with ⟨_, z⟩ | ⟨_, q2⟩
      · cases z
      · exact k.one j j' _ _ _ _ q1 q2
  · rcases z with ⟨j, p, ys, q1, q2⟩ | ⟨j, M, L, n, z, q1, q2, hn⟩
    · rcases hh q1 with ⟨_, z⟩ | ⟨_, q1⟩
      · cases z
      · exact .inl ⟨j, p, ys, q1, q2⟩
    · rcases hh q1 with ⟨_, z⟩ | ⟨_, q1⟩
      · cases z
      · exact .inr ⟨j, M, L, n, z, q1, q2, hn⟩
  · rcases hh q with ⟨_, z⟩ | ⟨_, q⟩
    · cases z
    · exact ⟨q, rfl⟩
  · have ne : j ≠ i := fun z => by subst z; rw [e] at q; cases q
    exact ⟨by rw [List.getElem?_set_ne (Ne.symm ne)]; exact q, rfl⟩
  · have ne : j ≠ i := fun z => by subst z; rw [e] at q; cases q
    exact ⟨ys, by rw [List.getElem?_set_ne (Ne.symm ne)]; exact q, rfl⟩
  · by_cases ne : j = i
    · subst ne; exact ⟨_, set_self e⟩
    · exact ⟨o, by rw [List.getElem?_set_ne (Ne.symm ne)]; exact q⟩
  · have ne : j ≠ i := fun z => by subst z; rw [e] at q; cases q
    exact ⟨M, by rw [List.getElem?_set_ne (Ne.symm ne)]; exact q, fun _ _ z w => ⟨z, w, fun _ => rfl⟩⟩
  · rcases hh q with ⟨_, z⟩ | ⟨_, q⟩
    · cases z
    · exact ⟨M, q, fun _ _ z w _ => ⟨z, w⟩⟩
  · rcases z with ⟨j, o, q1, hd, q2⟩ | ⟨j, M, L, n, z, q1, q2⟩
    · rcases hh q1 with ⟨_, z⟩ | ⟨ne, q1⟩
      · subst z; cases hd
      · exact ne (k.inj i j _ _ o a e q1 hd ev q2).symm
    · rcases hh q1 with ⟨_, z⟩ | ⟨_, q1⟩
      · cases z
      · exact k.apt a ⟨j, M, L, n, z, q1, q2⟩ hl
end
end Itp

/-! Reg2: the readings of what is done to cells. -/
namespace Itp
variable [KF]
open PySem PySem.Spec PyProof.Rows
open L2 (V Hp HO upd upd_same upd_ne ne_of ne_of_none Same Cx Inv OpR CallR MtR IxR SlR PSet TruR Room RelV EP VK SqL SqT Dp DpAll It TI TE TA TT TG TS TO PI PE PT PW PA PG PS PSs PO PTs PIE thn Turn FpOk Itl Itt Its Itr Itc Itv Ite Itz Gl Vis Loc Sp FnOk Binds Ends kV)
section
variable {T : Tab} {k : Nat} {gs : Gs} {N : List Str} {sc : Scope} {X : Cx} {Y : XP}
theorem plX_true {ex : Expr} (h : plX ex = true) (env : Env) (whole : Sem Value) : isTrue ex env whole = (do let v ← whole; standAt ex.pos; PySem.holding [v] (truthy v)) := by
  cases ex <;> first | rfl | cases h
theorem plX_bool {ex : Expr} (h : plX ex = true) : ∀ op es p, ex ≠ .BoolOp op es p := by
  intro op es p z; subst z; cases h
theorem se_at {ex : Expr} {e : E} {h : Nat} (he : SE T k X Y ex e) (hp : plX ex = true) : SE T k X Y ex (.at_ h e) := by
  have hC := call_mono T k
  refine SE.mk' (PE.imp he.pe fun σ H Q q => ?_) (plX_true hp X.env) (fun st Q w => by simpa only [wpT] using w) (plX_bool hp)
  obtain ⟨st, Hs, ok, w⟩ := q
  simp only [wpE] at w
  refine bindE hC ok w fun r s1 v H1 Hs1 w ok1 f1 r1 n1 => ?_
  unfold atR at w
  split at w
  · obtain ⟨j, x, e1, w⟩ := w
    obtain ⟨M, L, e2, e3⟩ := cellAt_ex e1
    exact w v H1 Hs1 ok1 f1 ⟨r1, M, L, x, e2, e3⟩ fun a ha => by simp [tmp] at ha
  · exact w v H1 Hs1 ok1 f1 r1 n1
/-- a reading that no test asks for -/
theorem SE.noT {ex : Expr} {e : E} (hE : PE X ex (TrE (call T k) Y e)) (hT : ∀ (C : Ct) (X0 : Xc) st Q, wpT C X0 e st Q → False) : SE T k X Y ex e := by
  refine ⟨hE, ⟨fun pins s σ H Q I q => ?_⟩, fun op es p z => ⟨fun wh pins s σ H Q I q => ?_⟩⟩
  · obtain ⟨st, Hs, ok, w⟩ := q
    exact (hT _ _ _ _ w).elim
  · obtain ⟨st, Hs, ok, w⟩ := q
    exact (hT _ _ _ _ w).elim
theorem se_cel {ex : Expr} {e : E} {h : Nat} (he : SE T k X Y ex e) : SE T k X Y ex (.cel h e) := by
  have hC := call_mono T k
  refine SE.noT (PE.imp he.pe fun σ H Q q => ?_) fun C X0 st Q w => by simp only [wpT] at w
  obtain ⟨st, Hs, ok, w⟩ := q
  simp only [wpE] at w
  refine bindE hC ok w fun r s1 v H1 Hs1 w ok1 f1 r1 n1 => ?_
  unfold celR at w
  split at w
  · rename_i p xs
    obtain ⟨M, L, e, w⟩ := newC_ex w
    obtain ⟨a, us, rfl, h1, h2, h3, h4⟩ := r1
    obtain ⟨ok2, f2⟩ := ok1.addC f1 e h4 h3 (x := .lst xs) ⟨us, h1, h2⟩ (n1 a (by simp [tmp]))
    exact w a (.ref a) H1 Hs1 ok2 f2 rfl fun a ha => by simp [tmp] at ha
  · rename_i i
    split at w
    · rename_i xs q
      obtain ⟨ev, _⟩ := r1
      obtain ⟨v', ev', a, us, rfl, h1, h2, h3⟩ := ok1.rep i _ q
      rw [ev] at ev'; cases ev'
      obtain ⟨ok2, f2, nh⟩ := ok1.letgo q ev
      rw [setK_eq] at w
      obtain ⟨M, L, e, w⟩ := newC_ex w
      have w := w a
      rw [setK_eq] at w
      have ne : i ≠ h := fun z => by
        subst z
        rw [List.getElem?_set_self (List.getElem?_eq_some_iff.mp q).1] at e
        cases e
      have e' : (s1.set i (some (.d (.ref a))))[h]? = some (some (.h M L)) := by
        rw [List.getElem?_set_ne ne] at e ⊢; exact e
      obtain ⟨ok3, f3⟩ := ok2.addC (f1.trans f2) e' nh h3 (x := .lst xs) ⟨us, h1, h2⟩ (f1.own a (.inl ⟨i, _, _, q, ev⟩))
      have es : ((s1.set i none).set h (some (.h (M ++ [(a, .lst xs)]) L))).set i (some (.d (.ref a))) = (s1.set i (some (.d (.ref a)))).set h (some (.h (M ++ [(a, .lst xs)]) L)) := by
        rw [List.set_comm _ _ ne.symm, List.set_set]
      rw [es] at w
      exact w (.ref a) H1 Hs1 ok3 f3 rfl fun a ha => by simp [tmp] at ha
    · exact w.elim
  · exact w.elim
theorem se_dnw {pos : Pos} {h : Nat} (t : Bool) : SE T k X Y (.Dict [] [] pos) (.dnw h t) := by
  have hC := call_mono T k
  have fin : ∀ (σ : L2.St) (H : Hp) (Q : VK) (ob : HO) (x : D), (∀ Hs H' p, H' p = some ob → CellR Hs H' p x) → (if t = true then D.dcT [] [] else .dcK [] []) = x → TrE (call T k) Y (.dnw h t) σ H Q → ∀ p, H p = none → Q (.ref p) (upd H p ob) := by
    intro σ H Q ob x hc ex q p hp
    obtain ⟨st, Hs, ok, w⟩ := q
    simp only [wpE] at w
    rw [ex] at w
    obtain ⟨M, L, e, w⟩ := newC_ex w
    have nh : ¬ Hel σ st p := fun z => by
      obtain ⟨⟨o, q⟩, _⟩ := ok.own_at z
      rw [hp] at q; cases q
    obtain ⟨ok2, f2⟩ := (ok.lay (x := ob) hp).addC (Fr.lay ok hp) e nh (Same.free ok.sub hp) (hc Hs _ p upd_same) (.inr hp)
    exact w p (.ref p) _ Hs ok2 f2 rfl fun a ha => by simp [tmp] at ha
  cases t with
  | true => exact SE.mk' (PE.imp L2.pe_dnewT fun σ H Q q => fin σ H Q _ (.dcT [] []) (fun Hs H' p e => ⟨[], e, rfl, rfl⟩) rfl q) (fun _ => rfl) (fun st Q w => by simpa only [wpT] using w) (fun _ _ _ => by simp)
  | false => exact SE.mk' (PE.imp L2.pe_dnewK fun σ H Q q => fin σ H Q _ (.dcK [] []) (fun Hs H' p e => ⟨[], e, rfl, rfl⟩) rfl q) (fun _ => rfl) (fun st Q w => by simpa only [wpT] using w) (fun _ _ _ => by simp)
theorem Ok.pokeC {σ : L2.St} {st : St} {Hs H : Hp} (k : Ok σ st Hs H) {p : Addr} {o : HO} (hs : Hs p = none) (nh : ¬ Hel σ st p) : Ok σ st Hs (upd H p o) := by
  refine ⟨k.len, fun b x q => by rw [upd_ne (ne_of_none q hs)]; exact k.sub b x q, fun i o q => ?_, k.inj, k.apt, k.one⟩
  obtain ⟨v, e, r⟩ := k.rep i o q
  refine ⟨v, e, ?_⟩
  cases o with
  | d x => exact r
  | l p xs =>
    obtain ⟨a, vs, rfl, h1, h2, h3⟩ := r
    exact ⟨a, vs, rfl, by rw [upd_ne (fun z => nh (.inl ⟨i, _, q, rfl, by rw [e, z]⟩))]; exact h1, h2, h3⟩
  | k p xs =>
    obtain ⟨a, vs, rfl, h1, h2, h3⟩ := r
    exact ⟨a, vs, rfl, by rw [upd_ne (fun z => nh (.inl ⟨i, _, q, rfl, by rw [e, z]⟩))]; exact h1, h2, h3⟩
  | h M L =>
    refine ⟨r.1.to (fun _ _ q => q) fun n a x e4 => ⟨fun o z => ?_, (r.1.at_ n a x e4).1⟩, r.2⟩
    rw [upd_ne (fun z => nh (.inr ⟨i, M, L, n, x, q, by rw [← z]; exact e4⟩))]
    exact z
theorem tre_mono {C : Ct} (hC : CtMono C) {Y : XP} {e : E} {σ : L2.St} {H : Hp} {Q Q' : VK} (w : TrE C Y e σ H Q) (h : ∀ v H, Q v H → Q' v H) : TrE C Y e σ H Q' := by
  obtain ⟨st, Hs, ok, w⟩ := w
  exact ⟨st, Hs, ok, wpE_mono hC w fun r s q v H' Hs' a b c d => h v H' (q v H' Hs' a b c d)⟩
/-- behind the pair of a display -/
theorem dn1_ok {h : Nat} {t : Bool} {σ : L2.St} {H : Hp} {Q : VK} {ek ev : E} (q : TrE (call T k) Y (.dn1 h t ek ev) σ H Q) {p : Addr} (hp : H p = none) (ob : HO) :
    TrE (call T k) Y ek σ (upd H p ob) fun x H1 => TrE (call T k) Y ev σ H1 fun y H2 => H2 p = some ob ∧ ∃ Hs dx dy, Same Hs H2 ∧ Sh Hs dx x ∧ Sh Hs dy y ∧ dPut (if t = true then .dcT [] [] else .dcK [] []) dx dy fun z => ∀ ob', CellR Hs (upd H2 p ob') p z → Q (.ref p) (upd H2 p ob') := by
  have hC := call_mono T k
  obtain ⟨st, Hs, ok, w⟩ := q
  simp only [wpE] at w
  have nh : ¬ Hel σ st p := fun z => by
    obtain ⟨⟨o, q⟩, _⟩ := ok.own_at z
    rw [hp] at q; cases q
  have okl := ok.lay (x := ob) hp
  have fl := Fr.lay ok (x := ob) hp
  refine bindE hC okl w (fun rk s1 x H1 Hs1 w ok1 f1 r1 n1 => ?_) (PostX.shift fl)
  have p1 : H1 p = some ob := f1.keep p _ upd_same fun z => nh z.hel
  have q1 : Hs1 p = none := f1.shr p (Same.free ok.sub hp) (fun z => nh z.hel) (by rw [upd_same]; simp)
  have nh1 : ¬ Hel σ s1 p := fun z => by
    rcases f1.hel z with z | z
    · exact nh z
    · rw [upd_same] at z; cases z
  refine bindE hC ok1 w (fun rv s2 y H2 Hs2 w ok2 f2 r2 n2 => ?_) (PostX.shift (fl.trans f1))
  have p2 : H2 p = some ob := f2.keep p _ p1 fun z => nh1 z.hel
  have q2 : Hs2 p = none := f2.shr p q1 (fun z => nh1 z.hel) (by rw [p1]; simp)
  have nh2 : ¬ Hel σ s2 p := fun z => by
    rcases f2.hel z with z | z
    · exact nh1 z
    · rw [p1] at z; cases z
  refine ⟨p2, ?_⟩
  obtain ⟨dx, s3, e1, dy, s4, e2, w⟩ := w
  have dj : ∀ a ∈ tmp rk x, a ∉ tmps [rv] [y] := fun a ha => by
    obtain ⟨⟨us, q⟩, _, q2⟩ := tmp_at r1 ha
    intro z
    rcases n2 a (by simpa [tmps] using z) with z | z
    · exact q2 z.hel
    · rw [q] at z; cases z
  obtain ⟨Hs3, ok3, f3, sh1, ra, m3⟩ := froz_ok (rs := [rv]) (ws := [y]) ok2 (f1.trans f2) (r1.lift f2) (fun a ha => n1 a ha) e1 ⟨y, [], rfl, r2, rfl, fun a _ => by simp [tmps]⟩ dj
  obtain ⟨y', ws', e5, r4, _, _⟩ := ra
  cases e5
  obtain ⟨Hs4, ok4, f4, sh2, _, m4⟩ := froz_ok (rs := []) (ws := []) ok3 f3 r4 (fun a ha => by
    rcases n2 a ha with z | z
    · exact f1.own a z
    · exact .inr (f1.dom a z)) e2 rfl (fun a _ => by simp [tmps])
  have q4 : Hs4 p = none := f4.shr p (Same.free ok.sub hp) (fun z => nh z.hel) (by rw [upd_same]; simp)
  have nh4 : ¬ Hel σ s4 p := fun z => by
    rcases f4.hel z with z | z
    · exact nh z
    · rw [upd_same] at z; cases z
  refine ⟨Hs4, dx, dy, ok4.sub, Sh.mono m4 sh1, sh2, dPut_mono (fun z w ob' c => ?_) w⟩
  obtain ⟨M, L, e, w⟩ := newC_ex w
  have f5 : Fr σ st Hs H σ s4 Hs4 (upd H2 p ob') := ⟨f4.sub, fun a o q n => by
      have ne : a ≠ p := fun z => by subst z; rw [hp] at q; cases q
      rw [upd_ne ne]
      exact f4.keep a o (by rw [upd_ne ne]; exact q) n, fun a z => upd_none (f4.dom a (upd_none z)), fun a z => by
        rcases f4.own a z with z | z
        · exact .inl z
        · exact .inr (upd_none z), fun a z n q => f4.shr a z n (by
        have ne : a ≠ p := fun z => by subst z; exact q hp
        rw [upd_ne ne]; exact q), f4.kk, f4.kp, f4.lp, f4.bd, f4.sz, f4.hp, f4.hq⟩
  obtain ⟨ok6, f6⟩ := (ok4.pokeC q4 nh4 (o := ob')).addC f5 e nh4 q4 c (.inr hp)
  exact w p (.ref p) _ Hs4 ok6 f6 rfl fun a ha => by simp [tmp] at ha
/-- {k: v} -/
theorem se_dn1 (g : Gd T k gs N sc X Y) {a b : Expr} {x y : E} {pos : Pos} {h : Nat} (t : Bool) (ha : SE T k X Y a x) (hb : SE T k X Y b y) : SE T k X Y (.Dict [some a] [b] pos) (.dn1 h t x y) := by
  have hC := call_mono T k
  have hu : X.A.units + 1 < cLine := by have := room_cu g.room; omega
  cases t with
  | true =>
    refine SE.mk' (PE.imp (pe_dispT1 hu ha.pe hb.pe) fun σ H Q q p hp => ?_) (fun _ => rfl) (fun st Q w => by simpa only [wpT] using w) (fun _ _ _ => by simp)
    refine tre_mono hC (dn1_ok q hp (.dT [])) fun u H1 q => tre_mono hC q fun v H2 q => ?_
    obtain ⟨e, Hs, dx, dy, sub, sx, sy, w⟩ := q
    refine ⟨e, ?_⟩
    have w : dPut (.dcT [] []) dx dy fun z => ∀ ob', CellR Hs (upd H2 p ob') p z → Q (.ref p) (upd H2 p ob') := w
    unfold dPut at w
    cases dx with
    | tup ys =>
      obtain ⟨kk, ek, _, w⟩ := w
      obtain ⟨c, us, rfl, h1, h2⟩ := sx
      exact ⟨kk, c, rfl, by rw [← keysOf_v ek h2]; exact sub _ _ h1, w _ ⟨[v], upd_same, rfl, v, [], rfl, sy, rfl⟩⟩
    | _ => exact w.elim
  | false =>
    refine SE.mk' (PE.imp (L2.pe_disp (L2.pps_cons ha.pe hb.pe L2.pps_nil) rfl rfl (by simp) (Nat.le_of_ble_eq_true rfl)) fun σ H Q q p hp => ?_) (fun _ => rfl) (fun st Q w => by simpa only [wpT] using w) (fun _ _ _ => by simp)
    refine tre_mono hC (dn1_ok q hp (.dK [])) fun u H1 q => tre_mono hC q fun v H2 q => ?_
    obtain ⟨e, Hs, dx, dy, sub, sx, sy, w⟩ := q
    have w : dPut (.dcK [] []) dx dy fun z => ∀ ob', CellR Hs (upd H2 p ob') p z → Q (.ref p) (upd H2 p ob') := w
    refine ⟨e, ?_⟩
    unfold dPut at w
    obtain ⟨kk, ek, _, w⟩ := w
    have ex := keyOf_v (H := Hs) ek (RV.of_sh (fun _ _ z => z) sx)
    subst ex
    exact ⟨[(kk, v)], rfl, Nat.le_of_ble_eq_true rfl, w _ ⟨[v], upd_same, rfl, v, [], rfl, sy, rfl⟩⟩
end
end Itp

/-! Reg3: cells changed by methods, seen whole, lent to calls. -/
namespace Itp
variable [KF]
open PySem PySem.Spec PyProof.Rows
open L2 (V Hp HO upd upd_same upd_ne ne_of ne_of_none Same Cx Inv OpR CallR MtR IxR SlR PSet TruR Room RelV EP VK SqL SqT Dp DpAll It TI TE TA TT TG TS TO PI PE PT PW PA PG PS PSs PO PTs PIE thn Turn FpOk Itl Itt Its Itr Itc Itv Ite Itz Gl Vis Loc Sp FnOk Binds Ends kV)
section
variable {Hs H : Hp} {M : List (Addr × D)}
mutual
theorem Deep.sh (rg : Rgn Hs H M) (sub : Same Hs H) : ∀ {x y : D} {v : V}, Deep M x y → Sh H x v → Sh H y v
  | _, _, _, .same _ _, h => h
  | _, _, _, .ref e d, h => by
    obtain ⟨_, c⟩ := rg.at_ _ _ _ e
    cases (show _ = V.ref _ from h)
    exact Deep.sh rg sub d (c.rv.sh sub)
  | _, _, _, .lst d, h => by
    obtain ⟨a, vs, e, h1, h2⟩ := h
    exact ⟨a, vs, e, h1, DeepA.sh rg sub d h2⟩
  | _, _, _, .tup d, h => by
    obtain ⟨a, vs, e, h1, h2⟩ := h
    exact ⟨a, vs, e, h1, DeepA.sh rg sub d h2⟩
theorem DeepA.sh (rg : Rgn Hs H M) (sub : Same Hs H) : ∀ {xs ys : List D} {vs : List V}, DeepA M xs ys → ShA H xs vs → ShA H ys vs
  | _, _, _, .nil, h => h
  | _, _, _, .cons d t, h => by
    obtain ⟨v, r, e, h1, h2⟩ := h
    exact ⟨v, r, e, Deep.sh rg sub d h1, DeepA.sh rg sub t h2⟩
end
end
section
variable {T : Tab} {k : Nat} {gs : Gs} {N : List Str} {sc : Scope} {X : Cx} {Y : XP}
theorem deepR_ok {σ : L2.St} {st : St} {Hs H : Hp} (k : Ok σ st Hs H) {h : Nat} {r : R} {v : V} (rr : RRep σ st Hs H v r) {Q : D → Prop} (w : deepR h r st Q) : ∃ x, RV H H x v ∧ Q x := by
  obtain ⟨M, L, e, x0, x, e0, d, q⟩ := regK_ex w
  exact ⟨x, RV.of_sh (fun _ _ z => z) (Deep.sh (k.rgn e) k.sub d ((k.view rr e0).sh k.sub)), q⟩
theorem se_cmd (g : Gh N sc X) {a b : Expr} {pos : Pos} {op : CmpOp} {x y : E} {h : Nat} (ha : SE T k X Y a x) (hb : SE T k X Y b y) (hm : behindInMarks op b = false) : SE T k X Y (.Compare a [op] [b] pos) (.cmd h op x y) := by
  have hC := call_mono T k
  refine ⟨PE.imp (L2.pe_cmpR (cmpop_R g.un) ha.pe hb.pe hm) fun σ H Q h => ?_, PT.imp (L2.pt_cmpR (cmpop_R g.un) ha.pe hb.pe hm) fun σ H Q h => ?_, fun _ _ _ z => by simp at z⟩
  · obtain ⟨st, Hs, ok, w⟩ := h
    simp only [wpE] at w
    refine bind2 hC ok w fun ra rb s2 v u H2 Hs2 w ok2 f2 r1 r2 => ?_
    obtain ⟨dx, h1, w⟩ := deepR_ok ok2 r1 w
    obtain ⟨dy, h2, w⟩ := deepR_ok ok2 r2 w
    exact ⟨H2, dx, dy, fun _ _ z => z, h1, h2, cmpop_mono (fun z w => w _ H2 Hs2 ok2 f2 rfl fun a ha => by simp [tmp] at ha) w⟩
  · obtain ⟨st, Hs, ok, w⟩ := h
    simp only [wpT] at w
    refine bind2 hC ok w fun ra rb s2 v u H2 Hs2 w ok2 f2 r1 r2 => ?_
    obtain ⟨dx, h1, w⟩ := deepR_ok ok2 r1 w
    obtain ⟨dy, h2, w⟩ := deepR_ok ok2 r2 w
    exact ⟨H2, dx, dy, fun _ _ z => z, h1, h2, cmpop_mono (fun z w => ⟨z, rfl, w H2 Hs2 ok2 f2⟩) w⟩
/-- a cell is changed by a method -/
theorem se_chc {f : Expr → Option E} (ih : ∀ ex e, f ex = some e → SE T k X Y ex e) (hs : ∀ ex e, f ex = some e → ∀ x p, ex ≠ .Starred x p) {o : Expr} {m : Str} {apos cpos : Pos} {es : List Expr} {mu : MU} {h : Nat} {x a : E} (hl : (apos.endLine == cpos.line) = true) (hm : mutOf m = some mu)
    (hb : isCall o = false) (ho : f o = some x) (hfew : es.length ≤ 2) (ha : compAll f es = some a) : SE T k X Y (.Call (.Attribute o m apos) es [] cpos) (.chc h mu x a) := by
  have hC := call_mono T k
  obtain ⟨m1, m2⟩ := mu_of hm
  have rd : ∀ σ H Q, TrE (call T k) Y (.chc h mu x a) σ H Q → TrE (call T k) Y x σ H fun v H1 => L2.tyV X.K "list" v H1 ∧ TrA (call T k) Y a σ H1 fun vs H2 => rMut mu v vs H2 Q := by
    intro σ H Q q
    obtain ⟨st, Hs, ok, w⟩ := q
    simp only [wpE] at w
    refine bindE hC ok w fun ro s1 v H1 Hs1 w ok1 f1 r1 n1 => ?_
    obtain ⟨b, j, er, w2⟩ := isC_ex w
    clear w
    subst er
    obtain ⟨b', x0, e0, il, w⟩ := cellK_ex w2
    obtain ⟨rfl, M, L, x1, e1, e2⟩ := r1
    have eM : M[j]? = some (b', x0) := by simpa only [cellAt, e1] using e0
    rw [e2] at eM; cases eM
    obtain ⟨hn0, c0⟩ := (ok1.rgn e1).at_ j b x0 e2
    refine ⟨?_, bindA hC ok1 w fun rs s2 vs H2 Hs2 w ok2 f2 r2 nf => ?_⟩
    · cases x0 with
      | lst xs => obtain ⟨us, h1, _⟩ := c0; exact .inl ⟨rfl, us, SqL.of h1⟩
      | _ => cases il
    · obtain ⟨ds, s3, ef, w⟩ := w
      obtain ⟨Hs3, ok3, f3, sh, _⟩ := frozAll_ok f2 ok2 f2 r2 nf ef
      obtain ⟨c, x2, e3, w⟩ := cellK_ex w
      obtain ⟨M3, L3, e4, e5⟩ := cellAt_ex e3
      obtain ⟨M3', e6, g6⟩ := f3.hp h M L e1
      rw [e4] at e6; cases e6
      obtain ⟨y, g7, _⟩ := g6 j b x0 e2
      rw [e5] at g7; cases g7
      obtain ⟨hn3, c3⟩ := (ok3.rgn e4).at_ j b x2 e5
      unfold mutC at w
      cases x2 with
      | lst xs =>
        obtain ⟨us, h1, h2⟩ := c3
        refine ⟨Hs3, b, us, xs, ds, rfl, ok3.sub, h1, h2, sh, muta_mono (fun z ys w v' ws sz sy => ?_) w⟩
        obtain ⟨M4, L4, c4, y4, e7, e8, nl, w⟩ := putC_ex w
        rw [e4] at e7; cases e7
        rw [e5] at e8; cases e8
        obtain ⟨ok4, f4⟩ := ok3.chgC e4 e5 nl (y := .lst ys) (ob := .lst ws) ⟨ws, upd_same, sy⟩
        exact w v' _ Hs3 ok4 ((f1.trans f3).trans f4) sz fun a ha => by simp [tmp] at ha
      | _ => exact w.elim
  have pa := snd_AF ih hs ha
  have stE := compAll_starF hs ha
  have pe : PE X (.Call (.Attribute o m apos) es [] cpos) (TrE (call T k) Y (.chc h mu x a)) := by
    match es, hfew with
    | [], _ =>
      refine PE.imp (L2.pe_bm0 PySem.F.plainAttrs_list m1 m2 muta_R (ih _ _ ho).pe (isCall_base hb _) hl) fun σ H Q q => ?_
      refine tre_mono hC (rd σ H Q q) fun v H1 ⟨ty, w⟩ => ⟨ty, ?_⟩
      simp only [compAll, Option.some.injEq] at ha
      subst ha
      obtain ⟨st, Hs, ok, w⟩ := w
      simp only [wpA] at w
      exact w [] H1 Hs ok Fr.refl rfl fun a ha => by simp [tmps] at ha
    | [e0], _ =>
      have st := stE e0 (by simp)
      exact PE.imp (L2.pe_bm PySem.F.plainAttrs_list m1 m2 muta_R (ih _ _ ho).pe pa (isCall_base hb _) (by rw [starEach_of st]; rfl) hl (starEach_of st _ _) rfl) rd
    | [e0, e1], _ =>
      have st := stE e0 (by simp)
      have st1 := stE e1 (by simp)
      exact PE.imp (L2.pe_bm PySem.F.plainAttrs_list m1 m2 muta_R (ih _ _ ho).pe pa (isCall_base hb _) (by rw [starEach_of st, starEach_of st1]; rfl) hl (starEach_of st _ _) (by rw [starEach_of st1]; rfl)) rd
  exact SE.mk' pe (fun _ => rfl) (fun st Q w => by simpa only [wpT] using w) (fun _ _ _ => by simp)
end
/-! ### lent cells -/
section
variable {σ σ0 : L2.St} {st st0 : St} {Hs H Hs0 H0 Hs' H' : Hp}
theorem pick_at {M : List (Addr × D)} : ∀ {ns : List Nat} {M1 : List (Addr × D)}, pick M ns = some M1 → M1.length = ns.length ∧ ∀ (i : Nat) (c : Addr × D), M1[i]? = some c → ∃ n, ns[i]? = some n ∧ M[n]? = some c
  | [], M1, e => by cases e; exact ⟨rfl, fun i c q => by simp at q⟩
  | n :: ns, M1, e => by
    unfold pick at e
    split at e
    · rename_i c cs e1 e2
      cases e
      obtain ⟨l, f⟩ := pick_at e2
      refine ⟨by simp [l], fun i d q => ?_⟩
      cases i with
      | zero => simp at q; subst q; exact ⟨n, rfl, e1⟩
      | succ i =>
        obtain ⟨m, a, b⟩ := f i d (by simpa using q)
        exact ⟨m, by simpa using a, b⟩
    · cases e
theorem pick_of {M : List (Addr × D)} : ∀ {ns : List Nat} {M1 : List (Addr × D)} {i n : Nat}, pick M ns = some M1 → ns[i]? = some n → ∃ c, M1[i]? = some c ∧ M[n]? = some c
  | [], M1, i, n, e, q => by simp at q
  | m :: ns, M1, i, n, e, q => by
    unfold pick at e
    split at e
    · rename_i c cs e1 e2
      cases e
      cases i with
      | zero => simp at q; subst q; exact ⟨c, rfl, e1⟩
      | succ i =>
        obtain ⟨d, a, b⟩ := pick_of (i := i) (n := n) e2 (by simpa using q)
        exact ⟨d, by simpa using a, b⟩
    · cases e
theorem pickL_mem {L : List Nat} : ∀ {ns : List Nat} {i0 i : Nat}, i ∈ pickL L i0 ns ↔ ∃ m n, i = i0 + m ∧ ns[m]? = some n ∧ n ∈ L
  | [], i0, i => by simp [pickL]
  | n :: ns, i0, i => by
    have ih := pickL_mem (L := L) (ns := ns) (i0 := i0 + 1) (i := i)
    have tail : (∃ m n', i = i0 + 1 + m ∧ ns[m]? = some n' ∧ n' ∈ L) → ∃ m n', i = i0 + m ∧ (n :: ns)[m]? = some n' ∧ n' ∈ L := by
      rintro ⟨m, n', e1, e2, e3⟩
      exact ⟨m + 1, n', by omega, by simpa using e2, e3⟩
    unfold pickL
    split
    · rename_i hn
      have hn : n ∈ L := by simpa using hn
      rw [List.mem_cons, ih]
      constructor
      · rintro (rfl | h)
        · exact ⟨0, n, rfl, rfl, hn⟩
        · exact tail h
      · rintro ⟨m, n', e1, e2, e3⟩
        cases m with
        | zero => exact .inl e1
        | succ m => exact .inr ⟨m, n', by omega, by simpa using e2, e3⟩
    · rename_i hn
      have hn : n ∉ L := by simpa using hn
      rw [ih]
      constructor
      · exact tail
      · rintro ⟨m, n', e1, e2, e3⟩
        cases m with
        | zero => simp at e2; subst e2; exact absurd e3 hn
        | succ m => exact ⟨m, n', by omega, by simpa using e2, e3⟩
theorem merge_at : ∀ {ns : List Nat} {M M2 : List (Addr × D)}, ns.Nodup → (∀ n ∈ ns, n < M.length) → ns.length ≤ M2.length →
    (∀ m : Nat, m ∉ ns → m < M.length → (merge M ns M2)[m]? = M[m]?) ∧ (∀ i m : Nat, ns[i]? = some m → (merge M ns M2)[m]? = M2[i]?) ∧ ∀ j : Nat, (merge M ns M2)[M.length + j]? = M2[ns.length + j]?
  | [], M, M2, _, _, _ => by
    have e : merge M [] M2 = M ++ M2 := by cases M2 <;> rfl
    rw [e]
    refine ⟨fun m _ h => List.getElem?_append_left h, fun i m h => by simp at h, fun j => ?_⟩
    rw [List.getElem?_append_right (by omega)]
    simp
  | n :: ns, M, [], _, _, l => by simp at l
  | n :: ns, M, (a, x) :: M2, nd, hb, l => by
    obtain ⟨nd1, nd2⟩ := List.nodup_cons.mp nd
    have hn := hb n List.mem_cons_self
    obtain ⟨h1, h2, h3⟩ := merge_at (ns := ns) (M := M.set n (a, x)) (M2 := M2) nd2 (fun m hm => by simpa using hb m (List.mem_cons_of_mem _ hm)) (by simpa using l)
    have e : merge M (n :: ns) ((a, x) :: M2) = merge (M.set n (a, x)) ns M2 := rfl
    rw [e]
    refine ⟨fun m hm lm => ?_, fun i m q => ?_, fun j => ?_⟩
    · rw [List.mem_cons, not_or] at hm
      rw [h1 m hm.2 (by simpa using lm), List.getElem?_set_ne (Ne.symm hm.1)]
    · cases i with
      | zero =>
        simp at q; subst q
        rw [h1 n nd1 (by simpa using hn), List.getElem?_set_self hn]
        rfl
      | succ i => exact h2 i m (by simpa using q)
    · have := h3 j
      simp only [List.length_set] at this
      rw [this]
      simp only [List.length_cons]
      rw [show ns.length + 1 + j = (ns.length + j) + 1 by omega, List.getElem?_cons_succ]
theorem lastH_ex : ∀ {l : List (Option O)} {Q : List (Option O) → List (Addr × D) → Prop}, lastH l Q → ∃ l' M L, l = l' ++ [some (.h M L)] ∧ Q l' M := by
  intro l
  induction l with
  | nil => intro Q w; simp only [lastH] at w
  | cons o os ih =>
    intro Q w
    cases os with
    | nil =>
      simp only [lastH] at w
      split at w
      · exact ⟨[], _, _, rfl, w⟩
      · exact w.elim
    | cons o2 os =>
      have w : lastH (o2 :: os) fun os' M => Q (o :: os') M := w
      obtain ⟨l', M, L, e, q⟩ := ih w
      exact ⟨o :: l', M, L, by rw [e]; rfl, q⟩
/-- a region behind the arguments -/
theorem Ok.snocH {σa : L2.St} {sta : St} (k : Ok σa sta Hs H) (no : ∀ (i : Nat) (M : List (Addr × D)) (L : List Nat), sta[i]? ≠ some (some (O.h M L))) {M1 : List (Addr × D)} {L1 : List Nat} (rg : Rgn Hs H M1) (hL : ∀ n ∈ L1, n < M1.length) (ap : ∀ (n : Nat) (a : Addr) (x : D), M1[n]? = some (a, x) → ¬ HelS σa sta a) :
    Ok (σa ++ [some V.non]) (sta ++ [some (.h M1 L1)]) Hs H := by
  have at_ : ∀ {i : Nat} {o : O}, (sta ++ [some (O.h M1 L1)])[i]? = some (some o) → sta[i]? = some (some o) ∨ (i = sta.length ∧ o = .h M1 L1) := fun {i o} q => by
    rcases snoc_at q with q | ⟨a, b⟩
    · exact .inl q
    · cases b; exact .inr ⟨a, rfl⟩
  have atS : ∀ {i : Nat} {o : O}, (sta ++ [some (O.h M1 L1)])[i]? = some (some o) → (∀ M L, o ≠ .h M L) → sta[i]? = some (some o) := fun q n => (at_ q).elim id fun z => absurd z.2 (n _ _)
  have atV : ∀ {i : Nat} {a : Addr}, (σa ++ [some V.non])[i]? = some (some (.ref a)) → σa[i]? = some (some (.ref a)) := fun {i a} q => by
    rcases snoc_at q with q | ⟨_, b⟩
    · exact q
    · cases b
  refine ⟨by simp [k.len], k.sub, fun i o q => ?_, fun i j p xs o a q1 q2 hh q3 q4 => k.inj i j p xs o a (atS q1 fun _ _ z => by cases z) (atS q2 (held_nh hh)) hh (atV q3) (atV q4), fun a ⟨i, M, L, n, x, q1, q2⟩ ⟨j, o, q3, hh, q4⟩ => ?_, fun i j M M' L L' q1 q2 => ?_⟩
  · rcases at_ q with q | ⟨rfl, rfl⟩
    · obtain ⟨v, e, r⟩ := k.rep i o q
      exact ⟨v, snoc_old e, r⟩
    · refine ⟨.non, ?_, rg, hL⟩
      rw [k.len, List.getElem?_append_right (by omega)]
      simp
  · rcases at_ q1 with q1 | ⟨rfl, e⟩
    · exact absurd q1 (no _ _ _)
    · cases e
      exact ap n a x q2 ⟨j, o, atS q3 (held_nh hh), hh, atV q4⟩
  · rcases at_ q1 with q1 | ⟨rfl, _⟩
    · exact absurd q1 (no _ _ _)
    · rcases at_ q2 with q2 | ⟨rfl, _⟩
      · exact absurd q2 (no _ _ _)
      · rfl
theorem pick_rgn {M : List (Addr × D)} {ns : List Nat} {M1 : List (Addr × D)} (rg : Rgn Hs H M) (e : pick M ns = some M1) (nd : ns.Nodup) : Rgn Hs H M1 := by
  obtain ⟨l, f⟩ := pick_at e
  refine ⟨fun n a x q => ?_, fun n m a x y q1 q2 => ?_⟩
  · obtain ⟨n', _, q⟩ := f n _ q
    exact rg.at_ n' a x q
  · obtain ⟨n', e1, q1⟩ := f n _ q1
    obtain ⟨m', e2, q2⟩ := f m _ q2
    have := rg.uniq n' m' a x y q1 q2
    subst this
    exact (List.getElem?_inj (List.getElem?_eq_some_iff.mp e1).1 nd).mp (e1.trans e2.symm)
/-- at a call to which cells are lent -/
theorem args_okH {rs : List R} {vs : List V} {os : List O} (k : Ok σ st Hs H) (ra : RA σ st Hs H rs vs) (e : args rs st = some os) (nd : (lent rs st).Nodup) {h : Nat} {M M1 : List (Addr × D)} {L ns : List Nat} (eh : st[h]? = some (some (.h M L))) (ep : pick M ns = some M1) (nn : ns.Nodup) :
    Ok ((vs ++ [V.non]).map some) ((os ++ [O.h M1 (pickL L 0 ns)]).map some) Hs H ∧ (∀ a, Own ((vs ++ [V.non]).map some) ((os ++ [O.h M1 (pickL L 0 ns)]).map some) a → OwnS (vs.map some) (os.map some) a ∨ OwnH st a) ∧
    ∀ (m : Nat) (a : Addr) (x : D), M[m]? = some (a, x) → m ∉ ns → ¬ Own ((vs ++ [V.non]).map some) ((os ++ [O.h M1 (pickL L 0 ns)]).map some) a := by
  obtain ⟨oa, ow⟩ := args_ok k ra e nd
  obtain ⟨l, f⟩ := pick_at ep
  have noh := args_noh e
  have e1 : (vs ++ [V.non]).map some = vs.map some ++ [some V.non] := by simp
  have e2 : (os ++ [O.h M1 (pickL L 0 ns)]).map some = os.map some ++ [some (O.h M1 (pickL L 0 ns))] := by simp
  rw [e1, e2]
  have own : ∀ a, Own (vs.map some ++ [some V.non]) (os.map some ++ [some (O.h M1 (pickL L 0 ns))]) a → OwnS (vs.map some) (os.map some) a ∨ ∃ (i n : Nat) (x : D), M1[i]? = some (a, x) ∧ ns[i]? = some n ∧ M[n]? = some (a, x) ∧ n ∉ L := fun a z => by
    rcases z with ⟨i, p, xs, q1, q2⟩ | ⟨i, M', L', n, x, q1, q2, hn⟩
    · rcases snoc_at q1 with q1 | ⟨_, b⟩
      · rcases snoc_at q2 with q2 | ⟨_, b⟩
        · exact .inl ⟨i, p, xs, q1, q2⟩
        · cases b
      · cases b
    · rcases snoc_at q1 with q1 | ⟨_, b⟩
      · exact absurd q1 (noh _ _ _)
      · cases b
        obtain ⟨m, g1, g2⟩ := f n _ q2
        refine .inr ⟨n, m, x, q2, g1, g2, fun z => hn (pickL_mem.mpr ⟨n, m, by omega, g1, z⟩)⟩
  refine ⟨oa.snocH noh (pick_rgn (k.rgn eh) ep nn) (fun n hn => ?_) (fun n a x q z => ?_), fun a z => ?_, fun m a x q hm z => ?_⟩
  · obtain ⟨m, n', e3, e4, _⟩ := pickL_mem.mp hn
    have := (List.getElem?_eq_some_iff.mp e4).1
    omega
  · obtain ⟨n', _, q⟩ := f n _ q
    have hc : HelH st a := ⟨h, M, L, n', x, eh, q⟩
    obtain ⟨i, o, q1, hh, q2⟩ := z
    cases o with
    | d y => cases hh
    | h M L => cases hh
    | l p xs => exact args_cell k ra e nd ⟨i, p, xs, q1, q2⟩ hc
    | k p xs =>
      obtain ⟨o1, g1, g2⟩ := map_at q1
      cases g2
      obtain ⟨v1, g3, g4⟩ := map_at q2
      cases g4
      obtain ⟨_, ff⟩ := args_at e
      obtain ⟨r, er, ar⟩ := ff i _ g1
      obtain ⟨i', q', rfl, z⟩ := argO_k ar
      obtain ⟨v, ev, rr⟩ := ra.at er
      rw [g3] at ev; cases ev
      exact k.apt a hc ⟨i', _, z, rfl, rr.1⟩
  · rcases own a z with z | ⟨i, n, x, _, _, g2, g3⟩
    · exact .inl z
    · exact .inr ⟨h, M, L, n, x, eh, g2, g3⟩
  · rcases own a z with z | ⟨i, n, y, _, g1, g2, _⟩
    · exact args_cell k ra e nd z ⟨h, M, L, m, x, eh, q⟩
    · have := (k.rgn eh).uniq m n a x y q g2
      subst this
      exact hm (List.mem_of_getElem? g1)
/-- behind a call to which cells are lent -/
theorem call_okH {rs : List R} {vs : List V} {os : List O} {res : O} {fin1 : List (Option O)} {v : V} {st2 : St} (k : Ok σ st Hs H) (f0 : Fr σ st0 Hs0 H0 σ st Hs H) (ra : RA σ st Hs H rs vs) (fa : ∀ a ∈ tmps rs vs, Own σ st0 a ∨ H0 a = none)
    (e : args rs st = some os) (nd : (lent rs st).Nodup) {h : Nat} {M M1 M2 : List (Addr × D)} {L L2 ns : List Nat} (eh : st[h]? = some (some (.h M L))) (ep : pick M ns = some M1) (nn : ns.Nodup)
    (cp : CallPost (vs ++ [V.non]) (os ++ [O.h M1 (pickL L 0 ns)]) Hs H res (fin1 ++ [some (.h M2 L2)]) v H' Hs') (eb : back st rs fin1 (st.set h (some (.h (merge M ns M2) L))) = some st2) :
    Ok σ st2 Hs' H' ∧ Fr σ st0 Hs0 H0 σ st2 Hs' H' ∧ RRep σ st2 Hs' H' v (.v res) ∧ ∀ a ∈ tmp (.v res) v, Own σ st0 a ∨ H0 a = none := by
  obtain ⟨_, ow, nown⟩ := args_okH k ra e nd eh ep nn
  obtain ⟨l, f⟩ := pick_at ep
  obtain ⟨la, _⟩ := args_at e
  have lv := ra.len
  have lf : fin1.length = os.length := by have := cp.len; simp at this; omega
  have eos : ∀ {j : Nat} {o : O}, os[j]? = some o → (os ++ [O.h M1 (pickL L 0 ns)])[j]? = some o := fun q => snoc_old q
  have evs : ∀ {j : Nat} {a : Addr}, (vs ++ [V.non])[j]? = some (.ref a) → vs[j]? = some (.ref a) := fun {j a} q => by
    rcases snoc_at q with q | ⟨_, b⟩
    · exact q
    · cases b
  have evs' : ∀ {j : Nat} {a : Addr}, vs[j]? = some (.ref a) → (vs ++ [V.non])[j]? = some (.ref a) := fun q => snoc_old q
  obtain ⟨M2', ef, rg2, pre, new⟩ := cp.reg os.length M1 (pickL L 0 ns) (by simp)
  have ef : M2' = M2 ∧ L2 = pickL L 0 ns := by
    rw [List.getElem?_append_right (by omega)] at ef
    simp [lf] at ef
    exact ⟨ef.1.symm, ef.2⟩
  obtain ⟨rfl, rfl⟩ := ef
  have hb : h < st.length := (List.getElem?_eq_some_iff.mp eh).1
  have rg := k.rgn eh
  have inM : ∀ n ∈ ns, n < M.length := fun n hn => by
    obtain ⟨i, hi⟩ := List.getElem?_of_mem hn
    obtain ⟨c, _, q⟩ := pick_of ep hi
    exact (List.getElem?_eq_some_iff.mp q).1
  have lM2 : ns.length ≤ M2'.length := by
    rcases Nat.lt_or_ge M2'.length ns.length with z | z
    · have hz : M2'.length < M1.length := by omega
      obtain ⟨y, q, _⟩ := pre M2'.length (M1[M2'.length]).1 (M1[M2'.length]).2 (List.getElem?_eq_getElem hz)
      have := (List.getElem?_eq_some_iff.mp q).1
      omega
    · exact z
  obtain ⟨m1, m2, m3⟩ := merge_at (M := M) (M2 := M2') nn inM lM2
  -- where a cell of the new region comes from
  have from_ : ∀ (n : Nat) (a : Addr) (x : D), (merge M ns M2')[n]? = some (a, x) → (n ∉ ns ∧ M[n]? = some (a, x)) ∨ (∃ i : Nat, ns[i]? = some n ∧ M2'[i]? = some (a, x)) ∨ ∃ i : Nat, ns.length ≤ i ∧ M.length ≤ n ∧ n = M.length + (i - ns.length) ∧ M2'[i]? = some (a, x) := by
    intro n a x q
    by_cases hn : n < M.length
    · by_cases hm : n ∈ ns
      · obtain ⟨i, hi⟩ := List.getElem?_of_mem hm
        rw [m2 i n hi] at q
        exact .inr (.inl ⟨i, hi, q⟩)
      · rw [m1 n hm hn] at q
        exact .inl ⟨hm, q⟩
    · have := m3 (n - M.length)
      rw [show M.length + (n - M.length) = n by omega] at this
      rw [this] at q
      exact .inr (.inr ⟨_, by omega, by omega, by omega, q⟩)
  have keepM : ∀ (n : Nat) (a : Addr) (x : D), n ∉ ns → M[n]? = some (a, x) → (∀ o, H a = some o → H' a = some o) ∧ Hs' a = none := by
    intro n a x hn q
    obtain ⟨h1, h2⟩ := rg.at_ n a x q
    obtain ⟨o, h3⟩ := h2.there
    have no := nown n a x q hn
    exact ⟨fun o z => cp.keep a o z no, cp.shr a h1 no (by rw [h3]; simp)⟩
  have rgN : Rgn Hs' H' (merge M ns M2') := by
    refine ⟨fun n a x q => ?_, fun n m a x y q1 q2 => ?_⟩
    · rcases from_ n a x q with ⟨hn, q⟩ | ⟨i, _, q⟩ | ⟨i, _, _, _, q⟩
      · obtain ⟨g1, g2⟩ := keepM n a x hn q
        exact ⟨g2, (rg.at_ n a x q).2.to cp.sub g1⟩
      · exact rg2.at_ i a x q
      · exact rg2.at_ i a x q
    · -- an old cell and one handed back
      have mix : ∀ {n i : Nat} {x y : D}, n ∉ ns → M[n]? = some (a, x) → M2'[i]? = some (a, y) → False := by
        intro n i x y hn q1 q2
        by_cases hi : i < ns.length
        · have h1 : i < M1.length := by omega
          obtain ⟨y', g1, _⟩ := pre i (M1[i]).1 (M1[i]).2 (List.getElem?_eq_getElem h1)
          rw [q2] at g1
          have ea : (M1[i]).1 = a := by simp at g1; exact g1.1.symm
          obtain ⟨n', g2, g3⟩ := f i _ (List.getElem?_eq_getElem h1)
          have g3 : M[n']? = some (a, (M1[i]).2) := by rw [g3, ← ea]
          have := rg.uniq n n' a x _ q1 g3
          subst this
          exact hn (List.mem_of_getElem? g2)
        · obtain ⟨g1, _⟩ := new i a y q2 (by omega)
          rcases g1 with g1 | g1
          · exact nown n a x q1 hn g1
          · obtain ⟨o, h3⟩ := (rg.at_ n a x q1).2.there
            rw [g1] at h3; cases h3
      rcases from_ n a x q1 with ⟨hn, p1⟩ | ⟨i, i1, p1⟩ | ⟨i, i1, i2, i3, p1⟩
      · rcases from_ m a y q2 with ⟨hm, p2⟩ | ⟨j, j1, p2⟩ | ⟨j, j1, j2, j3, p2⟩
        · exact rg.uniq n m a x y p1 p2
        · exact (mix hn p1 p2).elim
        · exact (mix hn p1 p2).elim
      · rcases from_ m a y q2 with ⟨hm, p2⟩ | ⟨j, j1, p2⟩ | ⟨j, j1, j2, j3, p2⟩
        · exact (mix hm p2 p1).elim
        · have := rg2.uniq i j a x y p1 p2
          subst this
          rw [i1] at j1; cases j1; rfl
        · have := rg2.uniq i j a x y p1 p2
          subst this
          have := (List.getElem?_eq_some_iff.mp i1).1
          omega
      · rcases from_ m a y q2 with ⟨hm, p2⟩ | ⟨j, j1, p2⟩ | ⟨j, j1, j2, j3, p2⟩
        · exact (mix hm p2 p1).elim
        · have := rg2.uniq i j a x y p1 p2
          subst this
          have := (List.getElem?_eq_some_iff.mp j1).1
          omega
        · have := rg2.uniq i j a x y p1 p2
          subst this
          omega
  refine call_gen (Own' := Own ((vs ++ [V.non]).map some) ((os ++ [O.h M1 (pickL L 0 ns)]).map some)) (fin := fin1) k f0 ra fa e nd cp.sub cp.sub2 ow cp.keep cp.dom cp.shr (fun j xs q => ?_) ⟨by simp, fun i hi => ?_, fun i M0 L0 q => ?_⟩ eb ?_
  · obtain ⟨ys, a, ws, g1, g2, g3⟩ := cp.back j xs (eos q)
    have lj : j < fin1.length := by rw [lf]; exact (List.getElem?_eq_some_iff.mp q).1
    rw [List.getElem?_append_left lj] at g1
    exact ⟨ys, a, ws, g1, evs g2, g3⟩
  · rw [List.getElem?_set_ne (fun z => hi M L (by rw [← z]; exact eh))]
  · have := k.one i h _ _ _ _ q eh
    subst this
    rw [eh] at q; cases q
    refine ⟨_, set_self eh, rgN, fun n a x q => ?_, fun n a x q => ?_⟩
    · by_cases hn : n ∈ ns
      · obtain ⟨i, hi⟩ := List.getElem?_of_mem hn
        obtain ⟨c, g1, g2⟩ := pick_of ep hi
        rw [q] at g2; cases g2
        obtain ⟨y, g3, g4⟩ := pre i a x g1
        refine ⟨y, by rw [m2 i n hi]; exact g3, fun hL => g4 (pickL_mem.mpr ⟨i, n, by omega, hi, hL⟩)⟩
      · exact ⟨x, by rw [m1 n hn (List.getElem?_eq_some_iff.mp q).1]; exact q, fun _ => rfl⟩
    · rcases from_ n a x q with ⟨_, q⟩ | ⟨i, i1, q⟩ | ⟨i, i1, i2, _, q⟩
      · exact .inl ⟨x, q⟩
      · have h1 : i < M1.length := by have := (List.getElem?_eq_some_iff.mp i1).1; omega
        obtain ⟨y', g1, _⟩ := pre i (M1[i]).1 (M1[i]).2 (List.getElem?_eq_getElem h1)
        rw [q] at g1
        have ea : (M1[i]).1 = a := by simp at g1; exact g1.1.symm
        obtain ⟨n', g2, g3⟩ := f i _ (List.getElem?_eq_getElem h1)
        rw [i1] at g2; cases g2
        exact .inl ⟨(M1[i]).2, by rw [g3, ← ea]⟩
      · obtain ⟨g1, g2⟩ := new i a x q (by omega)
        exact .inr ⟨i2, g1, fun j zs z w => g2 j zs (eos z) (evs' w)⟩
  · have rs' := cp.res
    cases res with
    | d x => exact rs'
    | k p xs => exact rs'
    | h M L => exact rs'
    | l p xs =>
      obtain ⟨a, ws, e1, g1, g2, g3, g4, g5, g6⟩ := rs'
      refine ⟨a, ws, e1, g1, g2, g3, g4, fun j zs z w => g5 j zs (eos z) (evs' w), fun z => ?_⟩
      obtain ⟨i, M0, L0, n, x, q1, q2⟩ := z
      rcases set_cases q1 with ⟨rfl, z⟩ | ⟨ne, q1⟩
      · cases z
        have e6 := g6 os.length M2' (pickL L 0 ns) (by rw [List.getElem?_append_right (by omega)]; simp [lf])
        rcases from_ n a x q2 with ⟨hn, q⟩ | ⟨j, _, q⟩ | ⟨j, _, _, _, q⟩
        · rcases g4 with g4 | g4
          · exact nown n a x q hn g4
          · obtain ⟨o, h3⟩ := (rg.at_ n a x q).2.there
            rw [g4] at h3; cases h3
        · exact e6 j x q
        · exact e6 j x q
      · exact ne (k.one i h _ _ _ _ q1 eh)
end
end Itp

/-! Reg4: calls to which cells are lent; expressions read in a way of their own. -/
namespace Itp
variable [KF]
open PySem PySem.Spec PyProof.Rows
open L2 (V Hp HO upd upd_same upd_ne ne_of ne_of_none Same Cx Inv OpR CallR MtR IxR SlR PSet TruR Room RelV EP VK SqL SqT Dp DpAll It TI TE TA TT TG TS TO PI PE PT PW PA PG PS PSs PO PTs PIE thn Turn FpOk Itl Itt Its Itr Itc Itv Ite Itz Gl Vis Loc Sp FnOk Binds Ends kV)
section
variable {T : Tab} {k : Nat} {gs : Gs} {N : List Str} {sc : Scope} {X : Cx} {Y : XP}
theorem se_clh (g : Gd T k gs N sc X Y) {fe : Expr → Option E} (ih : ∀ ex e, fe ex = some e → SE T k X Y ex e) (hs : ∀ ex e, fe ex = some e → ∀ x p, ex ≠ .Starred x p) {f gn : Str} {p pos : Pos} {es : List Expr} {a : E} {h : Nat} (hf : gs.hs.lookup f = some gn) (hn : nameOk f = true) (hg : isGl sc f = true)
    {lt : List Str} {tl : Bool} (hc : compAll (argX lt tl fe) es = some a) : SE T k X Y (.Call (.Name f p) es [] pos) (.clh false h gn a) := by
  have hC := call_mono T k
  obtain ⟨n1, n2, n3⟩ := nameOk_of hn
  obtain ⟨fa, fd, ps, hm, hk, hb, ⟨F, hF, hnp⟩, ok⟩ := g.htab f gn hf
  have pa := snd_AF (argX_se ih) (argX_star hs) hc
  have rd : ∀ σ H Q, TrE (call T k) Y (.clh false h gn a) σ H Q → TrA (call T k) Y a σ H fun vs H1 => spH (call T k) gn ps.length vs H1 Q (fun _ _ _ => False) := by
    intro σ H Q q
    obtain ⟨st, Hs, ok, w⟩ := q
    simp only [wpE] at w
    refine bindA hC ok w fun rs s1 vs H1 Hs1 w ok1 f1 r1 nf => ?_
    obtain ⟨os, ea, nd, w⟩ := w
    obtain ⟨M, L, eh, ns, M1, ep, nn, w⟩ := regK_ex w
    obtain ⟨l1, _⟩ := args_at ea
    have ln : (os ++ [O.h M1 (pickL L 0 ns)]).length = ps.length + 1 := by
      rw [← hnp]
      cases k with
      | zero => exact w.elim
      | succ k =>
        obtain ⟨F', e, l, _⟩ := w
        rw [hF] at e; cases e
        exact l
    refine ⟨?_, _, Hs1, ln, ⟨M1, pickL L 0 ns, by rw [show ps.length = os.length by simp at ln; omega]; simp⟩, (args_okH ok1 r1 ea nd eh ep nn).1, hC _ _ _ _ (fun res fin w v H' Hs' cp => ?_) w⟩
    · have := r1.len
      simp at ln
      omega
    · obtain ⟨fin1, M2, L2, efn, w2⟩ := lastH_ex w
      clear w
      subst efn
      obtain ⟨s2, eb, w⟩ := w2
      rw [if_neg Bool.false_ne_true] at w
      obtain ⟨ok2, f2, r2, n2⟩ := call_okH ok1 f1 r1 nf ea nd eh ep nn cp eb
      exact w v H' Hs' ok2 f2 r2 n2
  have pe : PE X (.Call (.Name f p) es [] pos) (TrE (call T k) Y (.clh false h gn a)) := by
    cases es with
    | nil =>
      refine PE.imp (pe_go0 ok g.gd g.room (g.gl hg) hm hk hb (fun _ _ _ => False) n1) fun σ H Q q => ?_
      have q := rd σ H Q q
      simp only [compAll, Option.some.injEq] at hc
      subst hc
      obtain ⟨st, Hs, ok, w⟩ := q
      simp only [wpA] at w
      exact w [] H Hs ok Fr.refl rfl fun a ha => by simp [tmps] at ha
    | cons e es =>
      have st := compAll_starF (argX_star hs) hc
      refine PE.imp (pe_go ok g.gd g.room (g.gl hg) hm hk hb (fun _ _ _ => False) pa n1 (starEach_of (st e List.mem_cons_self) _ _) (anyStar (fun e' he => st e' (List.mem_cons_of_mem _ he)) _ _)) rd
  exact SE.mk' pe (fun _ => rfl) (fun st Q w => by simpa only [wpT] using w) (fun _ _ _ => by simp)
theorem se_clhx (g : Gd T k gs N sc X Y) {fe : Expr → Option E} (ih : ∀ ex e, fe ex = some e → SE T k X Y ex e) (hs : ∀ ex e, fe ex = some e → ∀ x p, ex ≠ .Starred x p) {f gn : Str} {p pos : Pos} {es : List Expr} {a : E} {h : Nat} (hrz : gs.rz = true) (hf : gs.hxs.lookup f = some gn) (hn : nameOk f = true) (hg : isGl sc f = true)
    {lt : List Str} {tl : Bool} (hc : compAll (argX lt tl fe) es = some a) : SE T k X Y (.Call (.Name f p) es [] pos) (.clh true h gn a) := by
  have hC := call_mono T k
  obtain ⟨n1, n2, n3⟩ := nameOk_of hn
  have tk := g.tk hrz
  obtain ⟨fa, fd, ps, hm, hk, hb, ⟨F, hF, hnp⟩, ok⟩ := g.hxtab f gn hf
  have pa := snd_AF (argX_se ih) (argX_star hs) hc
  have rd : ∀ σ H Q, TrE (call T k) Y (.clh true h gn a) σ H Q → TrA (call T k) Y a σ H fun vs H1 => spHX (call T k) X.mg gs.xrs gn ps.length vs H1 Q fun cls d H' => Y.W cls d σ H' := by
    intro σ H Q q
    obtain ⟨st, Hs, ok, w⟩ := q
    simp only [wpE] at w
    refine bindA hC ok w fun rs s1 vs H1 Hs1 w ok1 f1 r1 nf => ?_
    obtain ⟨os, ea, nd, w⟩ := w
    obtain ⟨M, L, eh, ns, M1, ep, nn, w⟩ := regK_ex w
    obtain ⟨l1, _⟩ := args_at ea
    have ln : (os ++ [O.h M1 (pickL L 0 ns)]).length = ps.length + 1 := by
      rw [← hnp]
      cases k with
      | zero => exact w.elim
      | succ k =>
        obtain ⟨F', e, l, _⟩ := w
        rw [hF] at e; cases e
        exact l
    refine ⟨?_, _, Hs1, ln, ⟨M1, pickL L 0 ns, by rw [show ps.length = os.length by simp at ln; omega]; simp⟩, (args_okH ok1 r1 ea nd eh ep nn).1, hC _ _ _ _ (fun res fin w => ?_) w⟩
    · have := r1.len
      simp at ln
      omega
    · obtain ⟨fin1, M2, L2, efn, w2⟩ := lastH_ex w
      clear w
      subst efn
      obtain ⟨s2, eb, w⟩ := w2
      simp only [if_true] at w
      refine excTo_mono (fun c ds w H' Hs' cp => ?_) (fun w v H' Hs' cp => ?_) w
      · obtain ⟨ok2, f2, _, _⟩ := call_okH ok1 f1 r1 nf ea nd eh ep nn cp eb
        have q := w H' Hs' ok2 f2
        rw [g.emg, g.exr]
        exact q
      · obtain ⟨ok2, f2, r2, n2⟩ := call_okH ok1 f1 r1 nf ea nd eh ep nn cp eb
        exact w v H' Hs' ok2 f2 r2 n2
  have pe : PE X (.Call (.Name f p) es [] pos) (TrE (call T k) Y (.clh true h gn a)) := by
    cases es with
    | nil =>
      refine PE.imp (pe_goX0 ok tk g.gd g.room (g.gl hg) hm hk hb n1) fun σ H Q q => ?_
      have q := rd σ H Q q
      simp only [compAll, Option.some.injEq] at hc
      subst hc
      obtain ⟨st, Hs, ok, w⟩ := q
      simp only [wpA] at w
      exact w [] H Hs ok Fr.refl rfl fun a ha => by simp [tmps] at ha
    | cons e es =>
      have st := compAll_starF (argX_star hs) hc
      refine PE.imp (pe_goX ok tk g.gd g.room (g.gl hg) hm hk hb pa n1 (starEach_of (st e List.mem_cons_self) _ _) (anyStar (fun e' he => st e' (List.mem_cons_of_mem _ he)) _ _)) rd
  exact SE.mk' pe (fun _ => rfl) (fun st Q w => by simpa only [wpT] using w) (fun _ _ _ => by simp)
theorem marksF {f : Expr → Option E} (hset : ∀ ex e, f ex = some e → ∀ a b c, ex ≠ .Set a b c) {op : CmpOp} {b : Expr} {y : E} (h : f b = some y) : behindInMarks op b = false := marks_of (hset _ _ h)
/-- an expression that is read in a way of its own -/
theorem snd_W (g : Gd T k gs N sc X Y) {f : Expr → Option E} (ih : ∀ ex e, f ex = some e → SE T k X Y ex e) (hs : ∀ ex e, f ex = some e → ∀ x p, ex ≠ .Starred x p) (hset : ∀ ex e, f ex = some e → ∀ a b c, ex ≠ .Set a b c) {w : Nat} {ex : Expr} {e : E} (h : compW N gs sc w f ex = some e) : SE T k X Y ex e := by
  unfold compW at h
  split at h
  · cases h
  · rename_i hh _
    split at h
    · split at h
      · rename_i hp
        simp only [Option.map_eq_some_iff] at h; obtain ⟨x, hx, rfl⟩ := h
        exact se_at (ih _ _ hx) hp
      · cases h
    split at h
    · split at h
      · simp only [Option.map_eq_some_iff] at h; obtain ⟨x, hx, rfl⟩ := h
        exact se_cel (ih _ _ hx)
      · cases h
    split at h
    · split at h
      · split at h
        · cases h
        · rename_i hng
          simp only [Bool.or_eq_true, Bool.not_eq_true', not_or, Bool.not_eq_false] at hng
          split at h
          · rename_i hrz
            simp only [Bool.and_eq_true] at hrz
            split at h
            · rename_i g' hg'
              simp only [Option.map_eq_some_iff] at h; obtain ⟨x, hx, rfl⟩ := h
              exact se_clhx g ih hs hrz.1 hg' hng.1 hng.2 hx
            · cases h
          · split at h
            · rename_i g' hg'
              simp only [Option.map_eq_some_iff] at h; obtain ⟨x, hx, rfl⟩ := h
              exact se_clh g ih hs hg' hng.1 hng.2 hx
            · cases h
      · cases h
    split at h
    · split at h
      · split at h <;> first | (cases h; done) | (rename_i h1 h2; cases h; exact se_cmd g.gh (ih _ _ h1) (ih _ _ h2) (marksF hset h2))
      · cases h
    split at h
    · split at h
      · split at h
        · cases h
        · rename_i hl
          simp only [Bool.or_eq_true, Bool.not_eq_true', not_or, Bool.not_eq_false, Bool.not_eq_true] at hl
          split at h
          · rename_i h1 h2 h3
            split at h
            · rename_i hfew
              cases h
              exact se_chc ih hs hl.1 h2 hl.2 h1 hfew h3
            · cases h
          · cases h
      · cases h
    split at h
    · split at h
      · cases h; exact se_dnw false
      · split at h <;> first | (cases h; done) | (rename_i h1 h2; cases h; exact se_dn1 g false (ih _ _ h1) (ih _ _ h2))
      · cases h
    split at h
    · split at h
      · cases h; exact se_dnw true
      · split at h <;> first | (cases h; done) | (rename_i h1 h2; cases h; exact se_dn1 g true (ih _ _ h1) (ih _ _ h2))
      · cases h
    · cases h
end
end Itp

namespace Itp
variable [KF]
open PySem PySem.Spec PyProof.Rows
open L2 (V Hp HO upd upd_same upd_ne ne_of ne_of_none Same Cx Inv OpR CallR MtR IxR SlR PSet TruR Room RelV EP VK SqL SqT Dp DpAll It TI TE TA TT TG TGs TS TO PI PE PT PW PA PG PGs PS PSs PO PTs PIE thn Turn FpOk Itl Itt Its Itr Itc Itv Ite Itz Gl Vis Loc Sp FnOk Binds Ends)
section
variable {σ σ' : L2.St} {st st' : St} {Hs H Hs' H' : Hp}
/-- a list that is nobody's is written -/
theorem Ok.poke (k : Ok σ st Hs H) {D : Addr} {o : HO} (hs : Hs D = none) (nh : ¬ Hel σ st D) : Ok σ st Hs (upd H D o) := by
  refine ⟨k.len, fun b x q => by rw [upd_ne (ne_of_none q hs)]; exact k.sub b x q, fun i o q => ?_, k.inj, k.apt, k.one⟩
  obtain ⟨v, e, r⟩ := k.rep i o q
  refine ⟨v, e, ?_⟩
  cases o with
  | d x => exact r
  | l p xs =>
    obtain ⟨a, vs, rfl, h1, h2, h3⟩ := r
    exact ⟨a, vs, rfl, by rw [upd_ne (fun z => nh (.inl ⟨i, _, q, rfl, by rw [e, z]⟩))]; exact h1, h2, h3⟩
  | k p xs =>
    obtain ⟨a, vs, rfl, h1, h2, h3⟩ := r
    exact ⟨a, vs, rfl, by rw [upd_ne (fun z => nh (.inl ⟨i, _, q, rfl, by rw [e, z]⟩))]; exact h1, h2, h3⟩
  | h M L =>
    refine ⟨r.1.to (fun _ _ q => q) fun n a x e4 => ⟨fun o z => ?_, (r.1.at_ n a x e4).1⟩, r.2⟩
    rw [upd_ne (fun z => nh (.inr ⟨i, M, L, n, x, q, by rw [← z]; exact e4⟩))]
    exact z
theorem Fr.poke (f : Fr σ st Hs H σ' st' Hs' H') {D : Addr} {o : HO} (n : H D = none) : Fr σ st Hs H σ' st' Hs' (upd H' D o) :=
  ⟨f.sub, fun a x h no => by rw [upd_ne (ne_of_none h n)]; exact f.keep a x h no, fun a z => f.dom a (upd_none z), f.own, f.shr, f.kk, f.kp, f.lp, f.bd, f.sz, f.hp, f.hq⟩
theorem wipe_eqV {L : List Nat} {s1 s2 : L2.St} (hl : s1.length = s2.length) (h : ∀ j, j ∉ L → s1[j]? = s2[j]?) : L2.wipe s1 L = L2.wipe s2 L := by
  refine List.ext_getElem? fun j => ?_
  rw [wipeV_at, wipeV_at]
  split
  · by_cases hj : j < s1.length
    · rw [List.getElem?_eq_getElem hj, List.getElem?_eq_getElem (show j < s2.length by omega)]; rfl
    · rw [List.getElem?_eq_none (l := s1) (by omega), List.getElem?_eq_none (l := s2) (by omega)]
  · exact h j (by assumption)
/-- a turn's item -/
theorem yld_ok {J : It} {xs : List D} {G : Hp → Prop} {Hb H2 : Hp} {i : Nat} {v : V} {x : D} (wl : Wlk Hb J xs G) (k : Ok σ st Hs H) (sb : Same Hb Hs) (g : G H) (e : xs[i]? = some x) (y : J.yld i H v H2) :
    ∃ Hs2, Sh Hs2 x v ∧ Ok σ st Hs2 H2 ∧ Fr σ st Hs H σ st Hs2 H2 := by
  obtain ⟨Hs2, sh, h⟩ := wl.yields i H v H2 Hs x e g sb k.sub y
  refine ⟨Hs2, sh, ?_⟩
  rcases h with ⟨rfl, rfl⟩ | ⟨T, o, n, rfl, rfl⟩
  · exact ⟨k, Fr.refl⟩
  · exact ⟨k.layS n, Fr.layS k n⟩
end
section
variable {C : Ct} (hC : CtMono C)
include hC
theorem lc_read {own : List Nat} {t : Tg} {s : Src} {as c e : E} (ht : ∀ j ∈ slots t, j ∈ own) (σ : L2.St) (H : Hp) (Q : VK) (h : TrE C Y (.comp own t s as c e) σ H Q) : L2.tLc (TrI C Y s as) (TrG t) (TrT C Y.tt c) (TrE C Y.tt e) own σ H Q := by
  obtain ⟨st, Hs, ok, w⟩ := h
  simp only [wpE] at w
  refine ⟨st, Hs, ok, wpA_mono hC w fun rs s1 w vs H1 Hs1 ok1 f1 r1 n1 => ?_⟩
  obtain ⟨ds, ev, w⟩ := w
  have nf := items_frz w
  refine ⟨ds, ev, items_mono (fun xs w J wl => ?_) w⟩
  intro D hD
  have okL := ok1.lk r1
  have src : ∀ a, V.ref a ∈ vs → ¬ Own σ (lk rs s1) a := fun a ha => src_free ok1 r1 ev nf ha
  generalize hL0 : lk rs s1 = s0 at w okL src
  let P : Nat → Hp → Prop := fun i H' => ∃ s Hs' acc us, Ok σ s Hs' H' ∧ Fr σ s0 Hs1 H1 σ s Hs' H' ∧ H' D = some (.lst us) ∧ ShA Hs' acc us ∧ Hs' D = none ∧ ¬ Hel σ s D ∧ (∀ j ∈ own, s[j]?.join = s0[j]?.join) ∧
    compL t own s0 (fun s Q => wpT C (PostX Y σ st Hs H) c s Q) (fun s Q => wpE C (PostX Y σ st Hs H) e s Q) (ulk rs s1) (PostE Q σ st Hs H) (xs.drop i) acc s
  have nhD : ¬ Hel σ s0 D := fun z => by
    obtain ⟨⟨us, q⟩, _⟩ := okL.own_at z
    rw [hD] at q; cases q
  refine ⟨fun i m H' => m = xs.length - i ∧ i ≤ xs.length ∧ P i H', ⟨xs.length, by simp, Nat.zero_le _, s0, Hs1, [], [], okL.lay hD, Fr.lay okL hD, upd_same, rfl, Same.free ok1.sub hD, nhD, fun _ _ => rfl, w⟩, ?_⟩
  rintro i m H' ⟨rfl, hi, s, Hs', acc, us, k', f', eD, sA, nD, nh, ho, w⟩
  have held : Held vs H1 H' := fun a o ha e => f'.keep a o e (src a ha)
  by_cases hlt : i < xs.length
  · refine .inr ⟨wl.goes i H' hlt held, P (i + 1), fun H'' p => ⟨xs.length - (i + 1), by omega, rfl, hlt, p⟩, fun x H2 y => ?_⟩
    rw [List.drop_eq_getElem_cons hlt] at w
    simp only [compL] at w
    obtain ⟨s2, es, w⟩ := w
    obtain ⟨Hs2, sh, k2, f2⟩ := yld_ok wl k' f'.sub held (List.getElem?_eq_getElem hlt) y
    have eD2 : H2 D = some (.lst us) := f2.keep D _ eD fun z => nh z.hel
    have nD2 : Hs2 D = none := f2.shr D nD (fun z => nh z.hel) (by rw [eD]; simp)
    refine ⟨Itp.wipe s own, Hs2, xs[i], s2, k2.wipe own, sh, es, fun σ2 k3 f3 n3 => ?_⟩
    have nhW : ¬ Hel (L2.wipe σ own) (Itp.wipe s own) D := fun z => by
      rcases z with ⟨j, o, q1, hh, q2⟩ | ⟨j, M, N, n, x, q1, q2⟩
      · exact nh (.inl ⟨j, o, (wipe_some q1).1, hh, (wipeV_some q2).1⟩)
      · exact nh (.inr ⟨j, M, N, n, x, (wipe_some q1).1, q2⟩)
    have eqo : ∀ j, j ∉ own → σ2[j]? = (L2.wipe σ own)[j]? := fun j hj => n3 j fun z => hj (ht j z)
    have len2 : σ2.length = σ.length := by rw [← k3.len, f3.sz, (k2.wipe own).len, L2.wipe_length]
    refine ⟨wipe_eqV len2 fun j hj => by rw [eqo j hj, wipeV_out hj], ?_⟩
    -- behind the turn
    have fin : ∀ {s4 : St} {Hs4 H4 : Hp}, Ok σ2 s4 Hs4 H4 → Fr (L2.wipe σ own) (Itp.wipe s own) Hs2 H2 σ2 s4 Hs4 H4 → Ok σ (mend s0 s4 own) Hs4 H4 ∧ Fr σ s0 Hs1 H1 σ (mend s0 s4 own) Hs4 H4 ∧ H4 D = some (.lst us) ∧ Hs4 D = none ∧ ¬ Hel σ (mend s0 s4 own) D ∧ (∀ j ∈ own, (mend s0 s4 own)[j]?.join = s0[j]?.join) ∧ Same Hs' Hs4 := by
      intro s4 Hs4 H4 k4 f4
      obtain ⟨a, b, c⟩ := mend_ok k2 ho f4 k4 eqo
      refine ⟨a, (f'.trans f2).trans b, f4.keep D _ eD2 fun z => nhW z.hel, f4.shr D nD2 (fun z => nhW z.hel) (by rw [eD2]; simp), fun z => ?_, c, f2.sub.trans b.sub⟩
      rcases (f2.trans b).hel z with z | z
      · exact nh z
      · rw [eD] at z; cases z
    refine bindT hC k3 w (fun b s3 H3 Hs3 w k4 f4 => ?_) (PostX.tt rfl)
    cases b with
    | false =>
      obtain ⟨a1, a2, a3, a4, a5, a6, a7⟩ := fin k4 (f3.trans f4)
      exact ⟨_, Hs3, acc, us, a1, a2, a3, ShA.mono a7 sA, a4, a5, a6, w⟩
    | true =>
      refine bindE hC k4 w (fun r s4 v4 H4 Hs4 w k5 f5 r5 n5 => ?_) (PostX.tt rfl)
      obtain ⟨d, s5, ef, l, w⟩ := w
      obtain ⟨Hs5, k6, f6, sh6, _, _⟩ := froz_ok (rs := []) (ws := []) k5 ((f3.trans f4).trans f5) r5 (fun a ha => by
        rcases n5 a ha with z | z
        · exact (f3.trans f4).own a z
        · exact .inr ((f3.trans f4).dom a z)) ef rfl (fun a _ => by simp [tmps])
      obtain ⟨a1, a2, a3, a4, a5, a6, a7⟩ := fin k6 f6
      refine ⟨us, a3, by rw [← line_eq, ← sA.len]; exact l, ?_⟩
      exact ⟨_, Hs5, acc ++ [d], us ++ [v4], a1.poke a4 a5, a2.poke hD, upd_same, (ShA.mono a7 sA).app ⟨v4, [], rfl, sh6, rfl⟩, a4, a5, a6, w⟩
  · have e : i = xs.length := by omega
    subst e
    refine .inl ⟨wl.stops H' held, ?_⟩
    rw [List.drop_length] at w
    simp only [compL] at w
    have f'' : Fr σ (lk rs s1) Hs1 H1 σ s Hs' H' := by rw [hL0]; exact f'
    obtain ⟨k3, f3⟩ := ulk_ok ok1 f'' k'
    refine w (.ref D) H' Hs' k3 (f1.trans f3) (RRep.ulk (r := .v (.l false acc)) ⟨D, us, rfl, eD, sA, nD, nh⟩ s1) fun a ha => ?_
    have : a = D := by simpa [tmp] using ha
    subst this
    exact .inr (f1.dom a hD)
end
theorem PTs.imp {X : Cx} {e : List Expr} {t t' : TT} (h : PTs X e t) (i : ∀ σ H Q, t' σ H Q → t σ H Q) : PTs X e t' := ⟨fun pins s σ H Q I q => h.run pins s σ H Q I (i _ _ _ q)⟩
section
variable {T : Tab} {k : Nat} {gs : Gs} {N : List Str} {sc : Scope} {X : Cx} {Y : XP}
theorem rel_lookup {scope sc : Scope} {x : Str} : ∀ (names : List (Str × NameKind)), (names.map fun (n, k) => if (k == .free && sc.kind == .function && sc.names.lookup n == some .cell) then (n, NameKind.cell) else (n, k)).lookup x = (names.lookup x).map fun k => if (k == .free && sc.kind == .function && sc.names.lookup x == some .cell) then .cell else k
  | [] => rfl
  | (n, k) :: r => by
    have ih := rel_lookup (scope := scope) (sc := sc) (x := x) r
    cases hx : x == n with
    | true =>
      have e : x = n := by simpa using hx
      subst e
      simp only [List.map_cons]
      by_cases hc : (k == .free && sc.kind == .function && sc.names.lookup x == some .cell) = true
      · rw [if_pos hc, List.lookup_cons, List.lookup_cons, hx]; simp only [Option.map_some, if_pos hc]
      · rw [if_neg hc, List.lookup_cons, List.lookup_cons, hx]; simp only [Option.map_some, if_neg hc]
    | false =>
      simp only [List.map_cons]
      by_cases hc : (k == .free && sc.kind == .function && sc.names.lookup n == some .cell) = true
      · rw [if_pos hc, List.lookup_cons, List.lookup_cons, hx]; exact ih
      · rw [if_neg hc, List.lookup_cons, List.lookup_cons, hx]; exact ih
theorem loc_rel {scope sc : Scope} {x : Str} (h : Loc scope x) : Loc (L2.relS scope sc) x := by
  unfold L2.Loc L2.relS
  simp only
  rcases h with h | h
  · left
    rw [rel_lookup (scope := scope), h]; rfl
  · right
    rw [rel_lookup (scope := scope), h]; rfl
theorem Gd.blk (g : Gd T k gs N sc X Y) {s : Shared} {H : Hp} {scope : Scope} {C : Addr} {cl : List (Str × Addr)} {fp : List Addr} : Gd T k (gs.to false) N (L2.relS scope sc) (X.blk s H scope (compEnvC scope cl C X.env) fp) Y.tt := by
  refine ⟨g.eqN, g.nd, ?_, g.calm, g.kk, g.room, g.gd, g.blt, g.cst, g.tab, g.emg, g.exr, (fun z => by cases z), g.rtab, g.xcls, g.htab, g.hxtab⟩
  have := g.eqS
  subst this
  rfl
/-- a block's parts, at every start -/
theorem lc_parts (g : Gd T k gs N sc X Y) {n : Nat} (ih : ∀ (gs : Gs) (sc : Scope) (X : Cx) (Y : XP), Gd T k gs N sc X Y → ∀ ex e, compE N gs n sc ex = some e → SE T k X Y ex e) {elt tg it : Expr} {ifs : List Expr} {scope : Scope} {t : Tg} {s : Src} {as c e : E}
    (h1 : compI (compE N gs n sc) sc gs (isTup tg) it = some (s, as)) (h2 : compTg N scope 8 tg = some t) (h3 : compE N (gs.to false) n (L2.relS scope sc) elt = some e) (h4 : (ifs = [] ∧ c = .nop) ∨ ∃ cx, ifs = [cx] ∧ compE N (gs.to false) n (L2.relS scope sc) cx = some c) :
    PI X tg it (TrI (call T k) Y s as) ∧ (∀ (s : Shared) (H : Hp) (C : Addr) (cl : List (Str × Addr)) (fp : List Addr), PG (X.blk s H scope (compEnvC scope cl C X.env) fp) tg (TrG t)) ∧
      (∀ (s : Shared) (H : Hp) (C : Addr) (cl : List (Str × Addr)) (fp : List Addr), PTs (X.blk s H scope (compEnvC scope cl C X.env) fp) ifs (TrT (call T k) Y.tt c)) ∧
      (∀ (s : Shared) (H : Hp) (C : Addr) (cl : List (Str × Addr)) (fp : List Addr), PE (X.blk s H scope (compEnvC scope cl C X.env) fp) elt (TrE (call T k) Y.tt e)) := by
  refine ⟨snd_I g (ih gs sc X Y g) h1, fun s H C cl fp => ?_, fun s H C cl fp => ?_, fun s H C cl fp => (ih _ _ _ _ g.blk _ _ h3).pe⟩
  · refine pg_ok (lsc := scope) (g.blk (s := s) (H := H) (C := C) (cl := cl) (fp := fp)) (fun x hx => ⟨loc_rel hx, ?_⟩) 8 tg t h2
    rcases hx with hx | hx
    · right
      show (L2.relS scope sc).names.lookup x = some .local
      unfold L2.relS
      simp only
      rw [rel_lookup (scope := scope), hx]; rfl
    · left
      show (scope.names.lookup x == some .cell) = true
      rw [hx]; rfl
  · rcases h4 with ⟨rfl, rfl⟩ | ⟨cx, rfl, hc⟩
    · refine PTs.imp L2.pts_nil fun σ H Q q => ?_
      obtain ⟨st, Hs, ok, w⟩ := q
      simp only [wpT] at w
      exact w H Hs ok Fr.refl
    · exact L2.pts_one (ih _ _ _ _ g.blk _ _ hc).pt
theorem se_comp (g : Gd T k gs N sc X Y) {n : Nat} (ih : ∀ (gs : Gs) (sc : Scope) (X : Cx) (Y : XP), Gd T k gs N sc X Y → ∀ ex e, compE N gs n sc ex = some e → SE T k X Y ex e) {elt tg it : Expr} {ifs : List Expr} {scope : Scope} {pos : Pos} {t : Tg} {s : Src} {as c e : E}
    (hb : L2.blkC N sc scope (ownOf N scope) = true) (hns : ∀ a b c, it ≠ .Set a b c)
    (h1 : compI (compE N gs n sc) sc gs (isTup tg) it = some (s, as)) (h2 : compTg N scope 8 tg = some t) (h3 : compE N (gs.to false) n (L2.relS scope sc) elt = some e) (h4 : (ifs = [] ∧ c = .nop) ∨ ∃ cx, ifs = [cx] ∧ compE N (gs.to false) n (L2.relS scope sc) cx = some c)
    (h5 : ∀ j ∈ slots t, j ∈ (ownOf N scope).map (·.2)) : SE T k X Y (.ListComp elt [⟨tg, it, ifs, 0⟩] scope pos) (.comp ((ownOf N scope).map (·.2)) t s as c e) := by
  have hC := call_mono T k
  obtain ⟨p1, p2, p3, p4⟩ := lc_parts g ih h1 h2 h3 h4
  have bk : L2.BlkOk X.N X.env.scope scope (ownOf N scope) := by
    rw [g.eqN, g.eqS]
    exact L2.blkOk_by hb
  exact SE.mk' (PE.imp (L2.pe_lc g.calm (by rw [g.eqN]; exact g.nd) p1 bk p2 p3 p4 (fun x => foldSet_of hns _ x)) fun σ H Q q => lc_read hC h5 σ H Q q) (fun _ => rfl) (fun st Q w => by simpa only [wpT] using w) (fun _ _ _ => by simp)
theorem compI_set {f : Expr → Option E} {sc : Scope} {gs : Gs} {tp : Bool} {it : Expr} {s : Src} {as : E} (hf : ∀ a b c, f (.Set a b c) = none) (h : compI f sc gs tp it = some (s, as)) : ∀ a b c, it ≠ .Set a b c := by
  intro a b c z
  subst z
  simp [compI, hf] at h
theorem vis_of {x : Str} (h : isLoc sc x = true ∨ sc.names.lookup x = some .free) : sc.names.lookup x = some .local ∨ sc.names.lookup x = some .cell ∨ sc.names.lookup x = some .free := by
  rcases h with z | z
  · rcases loc_of z with z | z
    · exact .inl z
    · exact .inr (.inl z)
  · exact .inr (.inr z)
theorem lastMarks_of {o1 o2 : CmpOp} {b c : Expr} (h1 : ∀ x y z, b ≠ .Set x y z) (h2 : ∀ x y z, c ≠ .Set x y z) : lastMarks [o1, o2] [b, c] = false := by
  show behindInMarks o2 c = false
  exact marks_of h2
theorem compE_set0 {n : Nat} : ∀ a b c, compE N gs n sc (.Set a b c) = none := by
  intro a b c
  cases h : compE N gs n sc (.Set a b c) with
  | none => rfl
  | some e => exact absurd rfl (compE_set h a b c)
theorem se_blt' (g : Gd T k gs N sc X Y) {n : Nat} (ih : ∀ ex e, compE N gs n sc ex = some e → SE T k X Y ex e) {f : Str} {p pos : Pos} {es : List Expr} {b : B} {a : E} (hb : bltOf f = some b) (hn : nameOk f = true) (hg : isGl sc f = true)
    (hes : es = [] → False) (h : compAll (compE N gs n sc) es = some a) : SE T k X Y (.Call (.Name f p) es [] pos) (.blt b a) := by
  cases es with
  | nil => exact (hes rfl).elim
  | cons e0 es => exact se_blt g ih hb hn hg h
/-- an expression's core is sound -/
theorem snd_E : ∀ (n : Nat) (gs : Gs) (sc : Scope) (X : Cx) (Y : XP), Gd T k gs N sc X Y → ∀ ex e, compE N gs n sc ex = some e → SE T k X Y ex e
  | 0, gs, sc, X, Y, g, ex, e, h => by simp [compE] at h
  | n + 1, gs, sc, X, Y, g, ex, e, h => by
    have ih := snd_E n
    have ih' := ih gs sc X Y g
    unfold compE at h
    split at h
    case isFalse => exact snd_W (g.unw ex.pos) (ih _ sc X Y (g.unw ex.pos)) (fun _ _ h => compE_star h) (fun _ _ h => compE_set h) h
    rename_i hway
    clear hway
    split at h
    · rename_i x p
      split at h
      · rename_i hn
        have lc : ∀ {i}, ixOf N x = some i → (sc.names.lookup x = some .local ∨ sc.names.lookup x = some .cell ∨ sc.names.lookup x = some .free) → SE T k X Y (.Name x p) (.var i) := fun hi hv =>
          SE.mk' (pe_varT g.gh hi hn hv) (fun _ => rfl) (fun st Q w => by simpa only [wpT] using w) (fun _ _ _ => by simp)
        split at h
        · rename_i q; simp only [Option.map_eq_some_iff] at h; obtain ⟨i, hi, rfl⟩ := h; exact lc hi (.inl q)
        · rename_i q; simp only [Option.map_eq_some_iff] at h; obtain ⟨i, hi, rfl⟩ := h; exact lc hi (.inr (.inl q))
        · rename_i q; simp only [Option.map_eq_some_iff] at h; obtain ⟨i, hi, rfl⟩ := h; exact lc hi (.inr (.inr q))
        · rename_i q
          simp only [Option.map_eq_some_iff] at h
          obtain ⟨d, hd, rfl⟩ := h
          obtain ⟨u, v, h1, h2, h3⟩ := g.cst x d hd
          have hgl : Gl X x := by show List.lookup x X.env.scope.names = _; rw [g.eqS]; exact q
          refine SE.mk' (pe_cstT (L2.pe_glob hgl h1 h2 (nameOk_of hn).1) h3) (fun _ => rfl) (fun st Q w => ?_) (fun _ _ _ => by simp)
          cases d <;> first | (simpa only [wpT] using w) | (simp only [wpT] at w; simp only [wpE]; exact ⟨_, rfl, w⟩)
        · cases h
      · cases h
    · split at h
      · cases h; exact SE.mk' (pe_cstT L2.pe_non fun _ => rfl) (fun _ => rfl) (fun st Q w => by simpa only [wpT] using w) (fun _ _ _ => by simp)
      · cases h; exact SE.mk' (pe_cstT L2.pe_bl fun _ => rfl) (fun _ => rfl) (fun st Q w => by simp only [wpT] at w; simp only [wpE]; exact ⟨_, rfl, w⟩) (fun _ _ _ => by simp)
      · cases h; exact SE.mk' (pe_cstT L2.pe_int fun _ => rfl) (fun _ => rfl) (fun st Q w => by simpa only [wpT] using w) (fun _ _ _ => by simp)
      · cases h; exact SE.mk' (pe_cstT L2.pe_str fun _ => rfl) (fun _ => rfl) (fun st Q w => by simpa only [wpT] using w) (fun _ _ _ => by simp)
      · cases h
    · split at h <;> first | (cases h; done) | (rename_i h1 h2; cases h; exact se_bin (ih' _ _ h1) (ih' _ _ h2))
    · simp only [Option.map_eq_some_iff] at h; obtain ⟨x, hx, rfl⟩ := h; exact se_neg (ih' _ _ hx)
    · simp only [Option.map_eq_some_iff] at h; obtain ⟨x, hx, rfl⟩ := h; exact se_not (ih' _ _ hx)
    · split at h <;> first | (cases h; done) | (rename_i h1 h2; cases h; exact se_cmp g.gh (ih' _ _ h1) (ih' _ _ h2) (marks_of (compE_set h2)))
    · split at h <;> first | (cases h; done) | (rename_i h1 h2 h3; cases h; exact se_chn g (ih' _ _ h1) (ih' _ _ h2) (ih' _ _ h3) (lastMarks_of (compE_set h2) (compE_set h3)))
    · exact se_one (ih' _ _ h)
    · split at h <;> first | (cases h; done) | (rename_i h1 h2; cases h; exact se_and (ih' _ _ h1) (ih' _ _ h2))
    · split at h <;> first | (cases h; done) | (rename_i h1 h2; cases h; exact se_or (ih' _ _ h1) (ih' _ _ h2))
    · split at h <;> first | (cases h; done) | (rename_i h1 h2 h3; cases h; exact se_ite (ih' _ _ h1) (ih' _ _ h2) (ih' _ _ h3))
    · simp only [Option.map_eq_some_iff] at h; obtain ⟨x, hx, rfl⟩ := h; exact se_tup (snd_A ih' hx)
    · simp only [Option.map_eq_some_iff] at h; obtain ⟨x, hx, rfl⟩ := h; exact se_lst (snd_A ih' hx)
    · split at h
      · split at h
        · split at h <;> first | (cases h; done) | (rename_i h1 h2 h3; cases h; exact se_slc g (ih' _ _ h1) (so_of ih' h2) (so_of ih' h3))
        · split at h
          · simp only [Option.map_eq_some_iff] at h; obtain ⟨x, hx, rfl⟩ := h; exact se_rv (ih' _ _ hx)
          · cases h
        · cases h
      · split at h <;> first | (cases h; done) | (rename_i h1 h2; cases h; exact se_idx (room_cu g.room) (ih' _ _ h1) (ih' _ _ h2) (plainIx_of (compE_slice h2)))
    · split at h
      · cases h
      · rename_i hng
        simp only [Bool.or_eq_true, Bool.not_eq_true', not_or, Bool.not_eq_false] at hng
        obtain ⟨hn, hg⟩ := hng
        split at h
        · rename_i hf
          simp only [Option.map_eq_some_iff] at h; obtain ⟨x, hx, rfl⟩ := h
          split
          · rename_i hrz
            split
            · rename_i gn hgn
              exact se_clx g ih' hrz hgn hn hg hx
            · exact se_call g ih' (by simpa using hf) hn hg hx
          · exact se_call g ih' (by simpa using hf) hn hg hx
        · split at h
          · rename_i b hb
            split at h
            · rename_i rs hrs
              simp only [Option.map_eq_some_iff] at h; obtain ⟨x, hx, rfl⟩ := h
              exact se_lrg g ih' hg hrs hx
            split at h
            · cases h
            · rename_i hes
              simp only [Option.map_eq_some_iff] at h; obtain ⟨x, hx, rfl⟩ := h
              exact se_blt' g ih' hb hn hg hes hx
          · split at h
            · rename_i e; subst e
              split at h
              · simp only [Option.map_eq_some_iff] at h; obtain ⟨x, hx, rfl⟩ := h
                exact se_srt g (ih' _ _ hx) (compE_star hx) hg
              · cases h
            · split at h
              · rename_i e; subst e
                split at h
                · split at h
                  · cases h
                  · rename_i hng2
                    simp only [Bool.or_eq_true, Bool.not_eq_true', not_or, Bool.not_eq_false] at hng2
                    split at h <;> first | (cases h; done) | (rename_i h1 h2; cases h; exact se_isi g.gh (ih' _ _ h1) (compE_star h1) hg h2 hng2.1 hng2.2)
                · cases h
              · cases h
    · split at h
      · cases h
      · rename_i hng
        simp only [Bool.or_eq_true, Bool.not_eq_true', not_or, Bool.not_eq_false] at hng
        split at h
        · rename_i e; subst e
          split at h
          · rename_i e; subst e
            simp only [Option.map_eq_some_iff] at h; obtain ⟨x, hx, rfl⟩ := h
            exact se_srr g (ih' _ _ hx) (compE_star hx) hng.1
          · cases h
        · cases h
    · split at h
      · cases h
      · rename_i hng
        simp only [Bool.or_eq_true, Bool.not_eq_true', not_or, Bool.not_eq_false] at hng
        split at h
        · rename_i e; subst e
          split at h
          · rename_i e; subst e
            simp only [Option.map_eq_some_iff] at h; obtain ⟨x, hx, rfl⟩ := h
            exact se_Mxd g (ih' _ _ hx) (compE_star hx) hng.1
          · split at h
            · rename_i e; subst e
              simp only [Option.map_eq_some_iff] at h; obtain ⟨x, hx, rfl⟩ := h
              exact se_Mnd g (ih' _ _ hx) (compE_star hx) hng.1
            · cases h
        · cases h
    · split at h
      · cases h
      · rename_i hl
        simp only [Bool.not_eq_true', Bool.not_eq_false] at hl
        split at h
        · rename_i hmp
          split at h
          · split at h
            · cases h
            · rename_i hic
              split at h <;> first | (cases h; done) | (rename_i h1 h2; cases h; exact se_mp g hl hmp (ih' _ _ h1) (ih' _ _ h2) (compE_star h2) (by simpa using hic))
          · cases h
        split at h
        · rename_i hm
          split at h
          · cases h
          · rename_i hn
            simp only [Bool.not_eq_true', Bool.not_eq_false] at hn
            split at h
            · rename_i hv
              simp only [Bool.and_eq_true, Bool.or_eq_true, decide_eq_true_eq, beq_iff_eq] at hv
              have vis := vis_of hv.1
              split at h <;> first | (cases h; done) | (rename_i h1 h2; cases h; exact se_chg g ih' hl hm hn vis h1 hv.2 h2)
            · cases h
        · split at h
          · rename_i e; subst e
            split at h
            · simp only [Option.map_eq_some_iff] at h; obtain ⟨x, hx, rfl⟩ := h
              exact se_join g hl (ih' _ _ hx) (compE_star hx)
            · cases h
          · cases h
        · cases h
    · split at h
      · rename_i hb
        split at h
        · rename_i h1 h2 h3
          split at h
          · cases h
          · rename_i hs
            simp only [Bool.not_eq_true', Bool.not_eq_false, List.all_eq_true, List.contains_iff_mem] at hs
            split at h
            · cases h
              exact se_comp g ih hb (compI_set compE_set0 h1) h1 h2 h3 (.inl ⟨rfl, rfl⟩) hs
            · simp only [Option.map_eq_some_iff] at h; obtain ⟨x, hx, rfl⟩ := h
              exact se_comp g ih hb (compI_set compE_set0 h1) h1 h2 h3 (.inr ⟨_, rfl, hx⟩) hs
            · cases h
        · cases h
      · cases h
    · cases h
end
end Itp

namespace Itp
variable [KF]
open PySem PySem.Spec PyProof.Rows
open L2 (V Hp HO upd upd_same upd_ne ne_of ne_of_none Same Cx Inv OpR CallR MtR IxR SlR PSet TruR Room RelV EP VK SqL SqT Dp DpAll It TI TE TA TT TG TGs TS TO PI PE PT PW PA PG PGs PS PSs PO PTs PIE thn Turn FpOk Itl Itt Its Itr Itc Itv Ite Itz Gl Vis Loc Sp FnOk Binds Ends)
theorem PS.imp {X : Cx} {e : Stmt} {t t' : TS} (h : PS X e t) (i : ∀ D σ H, t' D σ H → t D σ H) : PS X e t' := ⟨fun pins s σ H D I q => h.run pins s σ H D I (i _ _ _ q)⟩
theorem PSs.imp {X : Cx} {e : List Stmt} {t t' : TS} (h : PSs X e t) (i : ∀ D σ H, t' D σ H → t D σ H) : PSs X e t' := ⟨fun pins s σ H D I q => h.run pins s σ H D I (i _ _ _ q)⟩
theorem fresh_back {σ0 σ : L2.St} {st0 st : St} {Hs0 H0 Hs H : Hp} {L : List Addr} (h : ∀ a ∈ L, Own σ st a ∨ H a = none) (f : Fr σ0 st0 Hs0 H0 σ st Hs H) : ∀ a ∈ L, Own σ0 st0 a ∨ H0 a = none := fun a ha => by
  rcases h a ha with z | z
  · exact f.own a z
  · exact .inr (f.dom a z)
theorem EnOf.shift {Y : XP} {D : Ends} {σ0 σ : L2.St} {st0 st : St} {Hs0 H0 Hs H : Hp} (f : Fr σ0 st0 Hs0 H0 σ st Hs H) : En.Le (EnOf Y D σ0 st0 Hs0 H0) (EnOf Y D σ st Hs H) :=
  ⟨fun s q σ' H' Hs' a b => q σ' H' Hs' a (f.trans b), fun r s q σ' v H' Hs' a b c d => q σ' v H' Hs' a (f.trans b) c (fresh_back d f), fun s q σ' H' Hs' a b => q σ' H' Hs' a (f.trans b), fun s q σ' H' Hs' a b => q σ' H' Hs' a (f.trans b), fun c ds s q σ' H' Hs' a b => q σ' H' Hs' a (f.trans b), rfl, rfl⟩
def TrS (C : Ct) (Y : XP) (b : S) : TS := fun D σ H => ∃ st Hs, Ok σ st Hs H ∧ wpS C b (EnOf Y D σ st Hs H) st
section
variable {C : Ct} (hC : CtMono C)
include hC
theorem goS {Y : XP} {b : S} {D : Ends} {σ0 σ : L2.St} {st0 st : St} {Hs0 H0 Hs H : Hp} (ok : Ok σ st Hs H) (f : Fr σ0 st0 Hs0 H0 σ st Hs H) (w : wpS C b (EnOf Y D σ0 st0 Hs0 H0) st) : TrS C Y b D σ H :=
  ⟨st, Hs, ok, wpS_mono hC b _ _ _ (EnOf.shift f) w⟩
end
/-- a def's body is walked -/
structure GS (T : Tab) (k : Nat) (gs : Gs) (N : List Str) (sc : Scope) (X : Cx) (Y : XP) : Prop where
  gd : Gd T k gs N sc X Y
  fn : ∀ x, X.fn x = true
  pass : PassesOwn (model X.prog X.w) X.A X.env X.xe
  kf : sc.kind = .function
  tk : L2.Takes X Y.W
  stk : X.stack = X.env :: X.outer
  frm : X.env.frame = some X.env.locals
  cur : Y.cur = none
  mgV : X.mg "ValueError" = none
section
variable {T : Tab} {k : Nat} {gs : Gs} {N : List Str} {sc : Scope} {X : Cx} {Y : XP}
theorem GS.nd (g : GS T k gs N sc X Y) : X.N.Nodup := by rw [g.gd.eqN]; exact g.gd.nd
theorem GS.at (g : GS T k gs N sc X Y) {x : Str} {i : Nat} (h : ixOf N x = some i) : X.N[i]? = some x := by rw [g.gd.eqN]; exact ixOf_at h
theorem GS.loc (g : GS T k gs N sc X Y) {x : Str} (h : isLoc sc x = true) : L2.Loc X.env.scope x := by rw [g.gd.eqS]; exact loc_of h
theorem plain_sw {e : Expr} (h : isPlainVal e = true) (tg : Option Expr) (l : Nat) (env : Env) : swapsWith e tg l env = pure false := by
  cases e <;> first | rfl | cases h
theorem sole_sw {e : Expr} (h : isPlainVal e = true) (t : Expr) (l : Nat) (env : Env) : swapsWithSole [t] e l env = pure false := by
  have : swapsWithSole [t] e l env = swapsWith e (some t) l env := by cases e <;> rfl
  rw [this]; exact plain_sw h _ _ _
theorem plain_st {e : Expr} (h : isPlainVal e = true) (t : Expr) (env : Env) : swappedStores [t] e env = pure none := by
  unfold swappedStores
  cases e <;> first | (cases h; done) | (cases t <;> rfl)
theorem sub_st {o i e : Expr} {p : Pos} {env : Env} : swappedStores [.Subscript o i p] e env = pure none := rfl
/-- what a name gets -/
theorem asg_nm {i : Nat} {a : E} {D : Ends} {σ : L2.St} {H : Hp} (h : TrS (call T k) Y (.asg (.nm i) a) D σ H) : TrE (call T k) Y a σ H fun x H1 => D.nx (σ.set i (some x)) H1 := by
  have hC := call_mono T k
  obtain ⟨st, Hs, ok, w⟩ := h
  simp only [wpS] at w
  refine bindE hC ok w fun r s1 v H1 Hs1 w ok1 f1 r1 n1 => ?_
  obtain ⟨o, s2, s3, e1, e2, w⟩ := w
  obtain ⟨Hs2, ok2, f2, r2, n2⟩ := take_ok ok1 f1 r1 n1 e1
  obtain ⟨ok3, f3, _⟩ := put_ok ok2 f2 r2 n2 e2
  exact w _ _ _ ok3 f3
theorem compW_lc {N : List Str} {gs : Gs} {sc : Scope} {k : Nat} {f : Expr → Option E} {e : Expr} (h : (∃ a b c d, e = .ListComp a b c d) ∨ (∃ a b c d, e = .SetComp a b c d) ∨ ∃ a b c d x, e = .DictComp a b c d x) : compW N gs sc k f e = none := by
  unfold compW
  split
  · rfl
  · rcases h with ⟨a, b, c, d, rfl⟩ | ⟨a, b, c, d, rfl⟩ | ⟨a, b, c, d, x, rfl⟩ <;> simp [plX, isPlainVal]
theorem ss_asg (g : GS T k gs N sc X Y) {n : Nat} {x : Str} {px pos : Pos} {e : Expr} {i : Nat} {a : E} (hl : isLoc sc x = true) (hi : ixOf N x = some i) (he : compE N gs n sc e = some a) : PS X (.Assign [.Name x px] e pos) (TrS (call T k) Y (.asg (.nm i) a)) := by
  have hC := call_mono T k
  have plain : swapsWith e (some (.Name x px)) pos.line X.env = pure false → PS X (.Assign [.Name x px] e pos) (TrS (call T k) Y (.asg (.nm i) a)) := fun hs =>
    PS.imp (L2.ps_set g.nd (g.at hi) (g.loc hl) (snd_E n gs sc X Y g.gd _ _ he).pe hs (.inl (g.fn x))) fun D σ H q => asg_nm q
  by_cases hp : isPlainVal e = true
  · exact plain (plain_sw hp _ _ _)
  · cases e with
    | Tuple es kk p => exact plain rfl
    | SetComp a b c d => cases n <;> simp [compE, compW_lc (.inr (.inl ⟨a, b, c, d, rfl⟩))] at he
    | DictComp a b c d f => cases n <;> simp [compE, compW_lc (.inr (.inr ⟨a, b, c, d, f, rfl⟩))] at he
    | ListComp elt gens scope p =>
      have sw : swapsWith (.ListComp elt gens scope p) (some (.Name x px)) pos.line X.env = pure (X.env.blockKind == .function && X.env.kindOf x == some .local && px.line == p.line && !(scope.names.any fun (n, k) => n == x && (k == .local || k == .cell))) := rfl
      cases hb : (X.env.blockKind == .function && X.env.kindOf x == some .local && px.line == p.line && !(scope.names.any fun (n, k) => n == x && (k == .local || k == .cell))) with
      | false => exact plain (by rw [sw, hb])
      | true =>
        rw [hb] at sw
        have hxl : X.env.scope.names.lookup x = some .local := by
          simp only [Bool.and_eq_true, beq_iff_eq] at hb
          exact hb.1.1.2
        cases n with
        | zero => simp [compE] at he
        | succ n =>
          have ih := snd_E (T := T) (k := k) (N := N) n
          unfold compE at he
          split at he
          case isFalse => rw [compW_lc (.inl ⟨elt, gens, scope, p, rfl⟩)] at he; cases he
          split at he <;> first | (rename_i z; cases z; done) | skip
          all_goals first
            | (cases he; done)
            | skip
          rename_i z
          cases z
          have go : ∀ {elt tg it : Expr} {ifs : List Expr} {t : Tg} {s : Src} {as c e : E}, swapsWith (.ListComp elt [⟨tg, it, ifs, 0⟩] scope p) (some (.Name x px)) pos.line X.env = pure true → L2.blkC N sc scope (ownOf N scope) = true →
              compI (compE N gs n sc) sc gs (isTup tg) it = some (s, as) → compTg N scope 8 tg = some t → compE N (gs.to false) n (L2.relS scope sc) elt = some e → ((ifs = [] ∧ c = .nop) ∨ ∃ cx, ifs = [cx] ∧ compE N (gs.to false) n (L2.relS scope sc) cx = some c) →
              (∀ j ∈ slots t, j ∈ (ownOf N scope).map (·.2)) → PS X (.Assign [.Name x px] (.ListComp elt [⟨tg, it, ifs, 0⟩] scope p) pos) (TrS (call T k) Y (.asg (.nm i) (.comp ((ownOf N scope).map (·.2)) t s as c e))) := by
            intro elt tg it ifs t s as c e sw hb h1 h2 h3 h4 h5
            obtain ⟨p1, p2, p3, p4⟩ := lc_parts g.gd ih h1 h2 h3 h4
            have bk : L2.BlkOk X.N X.env.scope scope (ownOf N scope) := by
              rw [g.gd.eqN, g.gd.eqS]
              exact L2.blkOk_by hb
            exact PS.imp (L2.ps_setLc g.gd.calm g.nd (g.at hi) hxl sw p1 bk p2 p3 p4 (fun x => foldSet_of (compI_set compE_set0 h1) _ x)) fun D σ H q => lc_read hC h5 σ H _ (asg_nm q)
          split at he
          · rename_i hbk
            split at he
            · rename_i h1 h2 h3
              split at he
              · cases he
              · rename_i hs
                simp only [Bool.not_eq_true', Bool.not_eq_false, List.all_eq_true, List.contains_iff_mem] at hs
                split at he
                · cases he
                  exact go sw hbk h1 h2 h3 (.inl ⟨rfl, rfl⟩) hs
                · simp only [Option.map_eq_some_iff] at he; obtain ⟨x, hx, rfl⟩ := he
                  exact go sw hbk h1 h2 h3 (.inr ⟨_, rfl, hx⟩) hs
                · cases he
            · cases he
          · cases he
    | _ => exact absurd rfl hp
theorem ss_tup' (g : GS T k gs N sc X Y) {n : Nat} {ts : List Expr} {kk : Nat} {p pos : Pos} {e : Expr} {t : Tg} {a : E} (hp : swapsWithSole [.Tuple ts kk p] e pos.line X.env = pure false) (hq : swappedStores [.Tuple ts kk p] e X.env = pure none) (ht : compTg N sc 8 (.Tuple ts kk p) = some t) (he : compE N gs n sc e = some a) : PS X (.Assign [.Tuple ts kk p] e pos) (TrS (call T k) Y (.asg t a)) := by
  have hC := call_mono T k
  have pg := pg_ok g.gd (fun x hx => ⟨hx, .inl (g.fn x)⟩) 8 _ _ ht
  refine PS.imp (L2.ps_asg (snd_E n gs sc X Y g.gd _ _ he).pe pg hp hq rfl) fun D σ H q => ?_
  obtain ⟨st, Hs, ok, w⟩ := q
  unfold compTg at ht
  simp only [Option.map_eq_some_iff] at ht
  obtain ⟨t', _, rfl⟩ := ht
  simp only [wpS] at w
  refine bindE hC ok w fun r s1 v H1 Hs1 w ok1 f1 r1 n1 => ?_
  obtain ⟨x, s2, s3, e1, e2, w⟩ := w
  obtain ⟨Hs2, ok2, f2, sh, _, _⟩ := froz_ok (rs := []) (ws := []) ok1 f1 r1 n1 e1 rfl (fun a _ => by simp [tmps])
  exact ⟨s2, Hs2, x, s3, ok2, sh, e2, fun σ' k3 f3 _ => w σ' H1 Hs2 k3 (f2.trans f3)⟩
theorem ss_tup (g : GS T k gs N sc X Y) {n : Nat} {ts : List Expr} {kk : Nat} {p pos : Pos} {e : Expr} {t : Tg} {a : E} (hp : isPlainVal e = true) (ht : compTg N sc 8 (.Tuple ts kk p) = some t) (he : compE N gs n sc e = some a) : PS X (.Assign [.Tuple ts kk p] e pos) (TrS (call T k) Y (.asg t a)) :=
  ss_tup' g (sole_sw hp _ _ _) (plain_st hp _ _) ht he
theorem tup_star {N : List Str} {gs : Gs} {n : Nat} {sc : Scope} {a b : Expr} {kt : Nat} {p : Pos} {e : E} (h : compE N gs n sc (.Tuple [a, b] kt p) = some e) : (∀ u p, a ≠ .Starred u p) ∧ (∀ u p, b ≠ .Starred u p) := by
  induction n generalizing gs e with
  | zero => simp [compE] at h
  | succ n ih =>
    unfold compE at h
    split at h
    · simp only [compAll, Option.map_eq_some_iff] at h
      obtain ⟨z, h, _⟩ := h
      cases ha : compE N gs n sc a with
      | none => rw [ha] at h; cases h
      | some x =>
        cases hb : compE N gs n sc b with
        | none => rw [ha, hb] at h; cases h
        | some y => exact ⟨compE_star ha, compE_star hb⟩
    · unfold compW at h
      split at h
      · cases h
      · simp only [plX] at h
        repeat' split at h
        all_goals first | (cases h; done) | (simp only [Option.map_eq_some_iff] at h; obtain ⟨x, hx, _⟩ := h; exact ih hx) | (simp at h; done)
/-- stores in their order: a name that a block within reads -/
theorem stores_cell {x y : Str} {px py pt p2 : Pos} {kt k2 : Nat} {a b : Expr} {env : Env} (h : env.scope.names.lookup x = some .cell ∨ env.scope.names.lookup y = some .cell) (h3 : ∀ u p, a ≠ .Starred u p) (h4 : ∀ u p, b ≠ .Starred u p) : swappedStores [.Tuple [.Name x px, .Name y py] kt pt] (.Tuple [a, b] k2 p2) env = pure none := by
  unfold swappedStores
  simp only []
  by_cases hb : env.blockKind != .function
  · rw [if_pos (by simp [hb])]
  · rw [if_neg (by simpa using hb), if_neg (by
      intro z
      simp only [List.any_cons, List.any_nil, Bool.or_false, Bool.or_eq_true] at z
      rcases z with z | z <;> (split at z <;> first | exact h3 _ _ rfl | exact h4 _ _ rfl | cases z))]
    refine if_pos ?_
    have : ∀ z : Str, env.scope.names.lookup z = some .cell → env.kindOf z = some .cell := fun z h => h
    rcases h with h | h
    · simp only [List.filterMap_cons, this _ h]
      cases hy : (env.kindOf y == some .local && py.line == ([Expr.Name x px, Expr.Name y py].head?.map (·.pos.line)).getD 0) <;> simp [hy]
    · simp only [List.filterMap_cons, this _ h]
      cases hy : (env.kindOf x == some .local && px.line == ([Expr.Name x px, Expr.Name y py].head?.map (·.pos.line)).getD 0) <;> simp [hy]
/-- constants: unpacked, and stored in their order -/
theorem stores_fold {x y : Str} {px py pt p2 : Pos} {kt k2 : Nat} {a b : Expr} {env : Env} (h : [a, b].all (foldedForSure 8) = true) (h3 : ∀ u p, a ≠ .Starred u p) (h4 : ∀ u p, b ≠ .Starred u p) : swappedStores [.Tuple [.Name x px, .Name y py] kt pt] (.Tuple [a, b] k2 p2) env = pure none := by
  unfold swappedStores
  simp only []
  by_cases hb : env.blockKind != .function
  · rw [if_pos (by simp [hb])]
  · rw [if_neg (by simpa using hb), if_neg (by
      intro z
      simp only [List.any_cons, List.any_nil, Bool.or_false, Bool.or_eq_true] at z
      rcases z with z | z <;> (split at z <;> first | exact h3 _ _ rfl | exact h4 _ _ rfl | cases z))]
    split <;> first | rfl | (rw [if_pos h])
/-- what a name will get, others beside it -/
theorem take_okA {σ σ0 : L2.St} {st st0 st1 : St} {Hs H Hs0 H0 : Hp} {v : V} {r : R} {o : O} {rs : List R} {ws : List V} (k : Ok σ st Hs H) (f : Fr σ0 st0 Hs0 H0 σ st Hs H) (h : RRep σ st Hs H v r) (fr : ∀ a ∈ tmp r v, Own σ0 st0 a ∨ H0 a = none) (e : take r st = some (o, st1))
    (ra : RA σ st Hs H rs ws) (ap : ∀ a ∈ tmp r v, a ∉ tmps rs ws) : ∃ Hs1, Ok σ st1 Hs1 H ∧ Fr σ0 st0 Hs0 H0 σ st1 Hs1 H ∧ RRep σ st1 Hs1 H v (.v o) ∧ (∀ a ∈ tmp (.v o) v, a ∈ tmp r v) ∧ RA σ st1 Hs1 H rs ws := by
  cases r with
  | v o' =>
    cases o' with
    | d y =>
      simp only [take, Option.some.injEq, Prod.mk.injEq] at e
      obtain ⟨rfl, rfl⟩ := e
      exact ⟨Hs, k, f, h, fun a z => z, ra⟩
    | k p xs => simp [take] at e
    | h M L => simp [take] at e
    | l p xs =>
      simp only [take, Option.some.injEq, Prod.mk.injEq] at e
      obtain ⟨rfl, rfl⟩ := e
      obtain ⟨b, vs, rfl, q⟩ := h
      exact ⟨Hs, k, f, ⟨b, vs, rfl, q⟩, fun a z => z, ra⟩
  | c i a n =>
    simp only [take, Option.some.injEq, Prod.mk.injEq] at e
    obtain ⟨rfl, rfl⟩ := e
    exact ⟨Hs, k, f, h.1, fun a z => by simp [tmp] at z, ra⟩
  | r i =>
    simp only [take] at e
    cases e1 : froz (.r i) st with
    | none => rw [e1] at e; cases e
    | some z =>
      obtain ⟨x, s1⟩ := z
      rw [e1] at e
      cases e
      obtain ⟨Hs1, k1, f1, sh, ra1, _⟩ := froz_ok k f h fr e1 ra ap
      exact ⟨Hs1, k1, f1, sh, fun a z => by simp [tmp] at z, ra1⟩
theorem stores_two {x y : Str} {px py pt p2 : Pos} {kt k2 : Nat} {a b : Expr} {env : Env} (hk : env.scope.kind = .function) (hx : env.scope.names.lookup x = some .local) (hy : env.scope.names.lookup y = some .local) (hp : (px.line == py.line) = true) (hn : (x == y) = false)
    (h1 : [a, b].all (foldedForSure 8) = false) (h2 : [a, b].all (constantsAlone 8) = false) (h3 : ∀ u p, a ≠ .Starred u p) (h4 : ∀ u p, b ≠ .Starred u p) : swappedStores [.Tuple [.Name x px, .Name y py] kt pt] (.Tuple [a, b] k2 p2) env = pure (some [x, y]) := by
  have hb : env.blockKind = .function := by unfold Env.blockKind; rw [hk]; rfl
  have kx : env.kindOf x = some .local := hx
  have ky : env.kindOf y = some .local := hy
  have hp' : (py.line == px.line) = true := by rw [beq_iff_eq] at hp ⊢; exact hp.symm
  have hn' : (y == x) = false := by rw [beq_eq_false_iff_ne] at hn ⊢; exact fun z => hn z.symm
  have ed : [x, y].eraseDups = [x, y] := by
    simp [List.eraseDups_cons, hn']
  unfold swappedStores
  simp only [hb]
  rw [if_neg (by simp), if_neg (by
    intro z
    simp only [List.any_cons, List.any_nil, Bool.or_false, Bool.or_eq_true] at z
    rcases z with z | z <;> (split at z <;> first | exact h3 _ _ rfl | exact h4 _ _ rfl | cases z))]
  simp only [List.filterMap_cons, kx, ky, List.head?_cons, Option.map_some, Option.getD_some, Expr.pos, hp']
  simp [ed, h1, h2]
/-- a, b = x, y -/
theorem ss_par (g : GS T k gs N sc X Y) {n : Nat} {x y : Str} {px py pt p2 pos : Pos} {kt k2 : Nat} {a b : Expr} {i j : Nat} {u v : E} (hx : sc.names.lookup x = some .local) (hy : sc.names.lookup y = some .local) (hp : (px.line == py.line) = true) (hn : (x == y) = false)
    (h1 : [a, b].all (foldedForSure 8) = false) (h2 : [a, b].all (constantsAlone 8) = false) (hi : ixOf N x = some i) (hj : ixOf N y = some j) (ha : compE N gs n sc a = some u) (hb : compE N gs n sc b = some v) :
    PS X (.Assign [.Tuple [.Name x px, .Name y py] kt pt] (.Tuple [a, b] k2 p2) pos) (TrS (call T k) Y (.par i j u v)) := by
  have hC := call_mono T k
  have hij : i ≠ j := fun z => by
    subst z
    have := ixOf_at hi
    rw [ixOf_at hj] at this
    cases this
    simp at hn
  have pa : PA X [a, b] (TrA (call T k) Y (.cons u (.cons v .nil))) := snd_A (snd_E n gs sc X Y g.gd) (by simp only [compAll, ha, hb])
  refine PS.imp (L2.ps_par g.gd.calm g.nd (g.at hi) (g.at hj) hij (by rw [g.gd.eqS]; exact hx) (by rw [g.gd.eqS]; exact hy) pa
    (stores_two (by rw [g.gd.eqS]; exact g.kf) (by rw [g.gd.eqS]; exact hx) (by rw [g.gd.eqS]; exact hy) hp hn h1 h2 (compE_star ha) (compE_star hb)) rfl) fun D σ H q => ?_
  obtain ⟨st, Hs, ok, w⟩ := q
  simp only [wpS] at w
  refine ⟨st, Hs, ok, ?_⟩
  simp only [wpA]
  refine wpE_monoX hC (EnOf.le Fr.refl) w fun ra s1 w => wpE_monoX hC (EnOf.le Fr.refl) w fun rb s2 w => ?_
  intro vs H2 Hs2 ok2 f2 r2 n2
  obtain ⟨v1, ws, rfl, r1, t, d1⟩ := r2
  obtain ⟨v2, ws, rfl, r3, t, d2⟩ := t
  cases (show ws = [] from t)
  obtain ⟨dx, dy, s3, s4, e1, e2, s5, s6, e3, e4, w⟩ := w
  have na : ∀ a ∈ tmp ra v1, Own σ st a ∨ H a = none := fun a ha => n2 a (by simp [tmps, ha])
  have nb : ∀ a ∈ tmp rb v2, Own σ st a ∨ H a = none := fun a ha => n2 a (by simp [tmps, ha])
  obtain ⟨Hs3, ok3, f3, r4, t4, ra3⟩ := take_okA (rs := [rb]) (ws := [v2]) ok2 f2 r1 na e1 ⟨v2, [], rfl, r3, rfl, fun a _ => by simp [tmps]⟩ d1
  obtain ⟨v2', ws', e5, r5, _, _⟩ := ra3
  cases e5
  have d4 : ∀ a ∈ tmp rb v2, a ∉ tmps [.v dx] [v1] := fun a ha z => by
    have z' : a ∈ tmp (.v dx) v1 := by simpa [tmps] using z
    exact d1 a (t4 a z') (by simpa [tmps] using ha)
  obtain ⟨Hs4, ok4, f4, r6, t6, ra4⟩ := take_okA (rs := [.v dx]) (ws := [v1]) ok3 f3 r5 nb e2 ⟨v1, [], rfl, r4, rfl, fun a _ => by simp [tmps]⟩ d4
  obtain ⟨v1', ws', e5, r7, _, _⟩ := ra4
  cases e5
  obtain ⟨ok5, f5, _⟩ := put_ok (v := v1) ok4 f4 r7 (fun a ha => na a (t4 a ha)) e3
  have e3' := put_len e3
  have r8 : RRep (σ.set i (some v1)) s5 Hs4 H2 v2 (.v dy) := by
    cases dy with
    | d y => exact r6
    | k p xs => exact r6
    | h M L => exact r6
    | l p xs =>
      obtain ⟨b, vs, rfl, h1, h2, h3, h4⟩ := r6
      refine ⟨b, vs, rfl, h1, h2, h3, fun z => ?_⟩
      rcases z with ⟨m, o, q1, q2, q3⟩ | ⟨m, M, L, n, x, q1, q2⟩
      case inr =>
        rw [e3'] at q1
        rcases set_cases q1 with ⟨_, z⟩ | ⟨_, q1⟩
        · cases z; exact r7
        · exact h4 (.inr ⟨m, M, L, n, x, q1, q2⟩)
      rw [e3'] at q1
      by_cases hm : m = i
      · subst hm
        have hl : m < s4.length := by
          rw [List.getElem?_set_self'] at q1
          cases q : s4[m]? with
          | none => rw [q] at q1; cases q1
          | some _ => exact (List.getElem?_eq_some_iff.mp q).1
        have hs : m < σ.length := by rw [← ok4.len]; exact hl
        rw [List.getElem?_set_self hl] at q1
        rw [List.getElem?_set_self hs] at q3
        simp only [Option.some.injEq] at q1 q3
        subst q1 q3
        cases dx with
        | d x => cases q2
        | k p' xs' => exact r7.elim
        | h M L => cases q2
        | l p' xs' => exact d4 b (t6 b (by simp [tmp])) (by simp [tmps, tmp])
      · rw [List.getElem?_set_ne (fun z => hm z.symm)] at q1 q3
        exact h4 (.inl ⟨m, o, q1, q2, q3⟩)
  obtain ⟨ok6, f6, _⟩ := put_ok (v := v2) ok5 f5 r8 (fun a ha => nb a (t6 a ha)) e4
  exact ⟨v1, v2, rfl, w _ _ _ ok6 f6⟩
/-- o[i] = e -/
theorem ss_set (g : GS T k gs N sc X Y) {n : Nat} {x : Str} {px p pos : Pos} {ie e : Expr} {o : Nat} {a b : E} (hp : isPlainVal e = true ∨ isTup e = true) (hs : isSlice ie = false) (hn : nameOk x = true) (hv : isLoc sc x = true ∨ sc.names.lookup x = some .free) (hi : ixOf N x = some o)
    (ha : compE N gs n sc ie = some a) (hb : compE N gs n sc e = some b) : PS X (.Assign [.Subscript (.Name x px) ie p] e pos) (TrS (call T k) Y (.set o a b)) := by
  have hC := call_mono T k
  obtain ⟨n1, n2, n3⟩ := nameOk_of hn
  have pv : PE X (.Name x px) (L2.tVar o) := L2.pe_var (g.at hi) (g.gd.vis (vis_of hv)) n1 n2
  have hsw : swapsWithSole [.Subscript (.Name x px) ie p] e pos.line X.env = pure false := by
    rcases hp with hp | hp
    · exact sole_sw hp _ _ _
    · cases e <;> first | rfl | cases hp
  refine PS.imp (L2.ps_asg (snd_E n gs sc X Y g.gd _ _ hb).pe (L2.pg_sub pv (snd_E n gs sc X Y g.gd _ _ ha).pe L2.set_list (by
    intro v
    cases ie <;> first | rfl | cases hs)) hsw sub_st rfl) fun D σ H q => ?_
  obtain ⟨st, Hs, ok, w⟩ := q
  simp only [wpS] at w
  refine bindE hC ok w fun r s1 v H1 Hs1 w ok1 f1 r1 n1 => ?_
  obtain ⟨⟨p0, xs0, e0⟩, w⟩ := w
  obtain ⟨ov, eo, _⟩ := ok1.rep o _ e0
  refine ⟨ov, eo, bindE hC ok1 w fun ri s2 iv H2 Hs2 w ok2 f2 r2 n2 => ?_⟩
  obtain ⟨dx, s3, ef, kk, p', xs, j, e1, e2, e3, w⟩ := w
  have dj : ∀ a ∈ tmp r v, a ∉ tmps [ri] [iv] := fun a ha => by
    obtain ⟨⟨us, q⟩, _, q2⟩ := tmp_at r1 ha
    intro z
    rcases n2 a (by simpa [tmps] using z) with z | z
    · exact q2 z.hel
    · rw [q] at z; cases z
  obtain ⟨Hs3, ok3, f3, sh, ra, _⟩ := froz_ok (rs := [ri]) (ws := [iv]) ok2 (f1.trans f2) (r1.lift f2) (fun a ha => n1 a ha) ef ⟨iv, [], rfl, r2, rfl, fun a _ => by simp [tmps]⟩ dj
  obtain ⟨iv', ws', e5, r4, _, _⟩ := ra
  cases e5
  cases (show iv = _ from ok3.view r4 e1)
  obtain ⟨b, us, rfl, h1, h2, h3⟩ := ok3.lst_at e2 eo
  obtain ⟨ok4, f4⟩ := ok3.chg e2 eo h1 (h2.set j sh)
  exact ⟨b, us, kk, j, rfl, rfl, h1, by rw [← h2.len]; exact e3, w _ _ _ ok4 (f3.trans f4)⟩
/-- x op= e -/
theorem ss_aug (g : GS T k gs N sc X Y) {n : Nat} {x : Str} {px pos : Pos} {e : Expr} {op : Operator} {i : Nat} {a : E} (hl : isLoc sc x = true) (hi : ixOf N x = some i) (he : compE N gs n sc e = some a) : PS X (.AugAssign (.Name x px) op e pos) (TrS (call T k) Y (.aug i op a)) := by
  have hC := call_mono T k
  refine PS.imp (L2.ps_aug g.nd (g.at hi) (g.loc hl) (snd_E n gs sc X Y g.gd _ _ he).pe (iop_R (op := op)) (.inl (g.fn x))) fun D σ H q => ?_
  obtain ⟨st, Hs, ok, w⟩ := q
  simp only [wpS] at w
  obtain ⟨dx, e0, w⟩ := w
  obtain ⟨v0, ev, rp⟩ := ok.rep i _ e0
  refine ⟨v0, ev, bindE hC ok w fun r s1 v H1 Hs1 w ok1 f1 r1 n1 => ?_⟩
  obtain ⟨dy, e1, w⟩ := w
  refine ⟨Hs1, dx, dy, ok1.sub, RV.of_sh ok1.sub (Sh.mono f1.sub rp), ok1.view r1 e1, iop_mono (fun z w v' H' Hs' gr => ?_) w⟩
  obtain ⟨ok2, f2, r2, n2⟩ := ok1.grow gr
  obtain ⟨s2, e2, w⟩ := w
  obtain ⟨ok3, f3, _⟩ := put_ok ok2 (f1.trans f2) r2 (n2.back f1) e2
  exact w _ _ _ ok3 f3
/-- o[i] op= e -/
theorem ss_augs (g : GS T k gs N sc X Y) {n : Nat} {x : Str} {px p pos : Pos} {ie e : Expr} {op : Operator} {o : Nat} {a b : E} (hs : isSlice ie = false) (hn : nameOk x = true) (hv : isLoc sc x = true ∨ sc.names.lookup x = some .free) (hi : ixOf N x = some o)
    (ha : compE N gs n sc ie = some a) (hb : compE N gs n sc e = some b) : PS X (.AugAssign (.Subscript (.Name x px) ie p) op e pos) (TrS (call T k) Y (.augs o a op b)) := by
  have hC := call_mono T k
  obtain ⟨n1, n2, n3⟩ := nameOk_of hn
  have pv : PE X (.Name x px) (L2.tVar o) := L2.pe_var (g.at hi) (g.gd.vis (vis_of hv)) n1 n2
  refine PS.imp (L2.ps_augS pv (snd_E n gs sc X Y g.gd _ _ ha).pe (get_list (X := X)) (snd_E n gs sc X Y g.gd _ _ hb).pe (iop_R (op := op)) L2.set_list (by
    intro ov iv new
    cases ie <;> first | rfl | cases hs)) fun D σ H q => ?_
  obtain ⟨st, Hs, ok, w⟩ := q
  simp only [wpS] at w
  obtain ⟨⟨p0, xs0, e0⟩, w⟩ := w
  obtain ⟨ov, eo, _⟩ := ok.rep o _ e0
  refine ⟨ov, eo, bindE hC ok w fun ri s1 iv H1 Hs1 w ok1 f1 r1 n1 => ?_⟩
  obtain ⟨kk, p', xs, x', e1, e2, e3, w⟩ := w
  cases (show iv = _ from ok1.view r1 e1)
  obtain ⟨b1, us, rfl, h1, h2, h3⟩ := ok1.lst_at e2 eo
  obtain ⟨xv, e4, shx⟩ := atI_sh h2 e3
  refine ⟨b1, us, kk, xv, rfl, rfl, SqL.of h1, e4, bindE hC ok1 w fun r s2 v H2 Hs2 w ok2 f2 r2 n2 => ?_⟩
  obtain ⟨dy, e5, w⟩ := w
  refine ⟨Hs2, x', dy, ok2.sub, RV.of_sh ok2.sub (Sh.mono f2.sub shx), ok2.view r2 e5, iop_mono (fun z w v' H' Hs' gr => ?_) w⟩
  obtain ⟨ok3, f3, r3, n3⟩ := ok2.grow gr
  obtain ⟨w', p2, ys, j, rfl, e6, e7, w⟩ := w
  obtain ⟨b2, us2, eb, g1, g2, g3⟩ := ok3.lst_at e6 eo
  cases eb
  obtain ⟨ok4, f4⟩ := ok3.chg e6 eo g1 (g2.set j r3)
  exact ⟨b1, us2, kk, j, rfl, rfl, g1, by rw [← g2.len]; exact e7, w _ _ _ ok4 (((f1.trans f2).trans f3).trans f4)⟩
end
end Itp

/-! Exc1: own exceptions are made and raised. -/
namespace Itp
open PySem PySem.Spec PyProof.Rows
open L2 (V Hp HO upd upd_same upd_ne ne_of ne_of_none Same Cx Inv RelV EP VK XK Sp FnOk PE PA PS PSs PMk MkP Raises Takes exo exd del del_ne del_same OexC tMkO Binds Room Vals TA Gl)
/-! ### __init__ -/
/-- fields stored one behind another, the dict at d -/
def putF (d : Addr) : List (Str × V) → List (Str × V) → List (Str × V)
  | [], acc => acc
  | p :: ps, acc => putF d ps (p :: acc)
def spIni (C : Addr) (fs : List Str) : Sp := fun vs H Q _ => ∃ (a : Addr) (ws : List V), vs = .ref a :: ws ∧ ws.length = fs.length ∧ H a = some (exo a C none) ∧ ∀ d, H d = none → d ≠ a → Q .non (upd (upd H d (exd d (fs.zip ws).reverse)) a (exo a C (some d)))
theorem upd_upd {H : Hp} {a : Addr} {x y : HO} : upd (upd H a x) a y = upd H a y := by
  funext b
  by_cases h : b = a
  · subst h; rw [upd_same, upd_same]
  · rw [upd_ne h, upd_ne h, upd_ne h]
theorem upd_comm {H : Hp} {a b : Addr} {x y : HO} (h : a ≠ b) : upd (upd H a x) b y = upd (upd H b y) a x := by
  funext c
  by_cases h1 : c = a
  · subst h1; rw [upd_ne h, upd_same, upd_same]
  · by_cases h2 : c = b
    · subst h2; rw [upd_same, upd_ne h1, upd_same]
    · rw [upd_ne h2, upd_ne h1, upd_ne h1, upd_ne h2]
section
variable {P : Program} {w : World} {K : PySem.W.Frag} {mg : Str → Option Value} {base : Heap} {c : Nat} {C : Addr}
/-- a field stored -/
theorem ini_ps {X : Cx} {f : Str} {i : Nat} {q1 q2 q3 q4 : Pos} (h0 : X.N[0]? = some ("self" : Str)) (hi : X.N[i]? = some f) (v0 : L2.Vis X.env.scope ("self" : Str)) (vi : L2.Vis X.env.scope f) (n1 : (f == ("__debug__" : Str)) = false) (n2 : (f == ("__classdict__" : Str)) = false) :
    PS X (.Assign [.Attribute (.Name "self" q1) f q2] (.Name f q3) q4) (L2.tOst X.K f (L2.tVar 0) (L2.tVar i)) :=
  L2.ps_ost (L2.pe_var h0 v0 (by decide) (by decide)) (L2.pe_var hi vi n1 n2) rfl
theorem ini_ok {fI : Addr} {fd : FuncData} {st : Stmt} {qual : Str} (T : OexC K C) (no : ∀ f ∈ xfN c, PySem.W.findIn K (.ref C) f = some none) (ne : xFl c ≠ []) (hc : c < 19) (F : L2.Fun K "__init__" qual st fI fd) (S : L2.FnScope (("self" : Str) :: xfN c) (("self" : Str) :: xfN c) (L2.defScope st)) (hb : InitIs (xfN c) (L2.defBody st)) :
    FnOk P w K mg base L2.CX0 1 fI fd (("self" : Str) :: xfN c) (spIni C (xfN c)) := by
  refine F.ok S (fun vs H Q E h => ?_) fun cdv A outer s H vs Q E hr h => ?_
  · obtain ⟨a, ws, rfl, l, _⟩ := h
    simp [l]
  obtain ⟨a, ws, rfl, l, ha, q⟩ := h
  have par : ∀ x ∈ ("self" : Str) :: xfN c, L2.Vis (L2.defScope st) x := fun x hx => by
    rcases S.par x hx with z | z
    · exact .inl z
    · exact .inr (.inl z)
  -- one or two fields
  have shape : (∃ f, xfN c = [f]) ∨ ∃ f g, xfN c = [f, g] := by
    have : ∀ c < 19, xFl c ≠ [] → (∃ f, xfN c = [f]) ∨ ∃ f g, xfN c = [f, g] := by
      intro c hc ne
      match c, hc, ne with
      | 0, _, ne => exact absurd rfl ne
      | 1, _, ne => exact absurd rfl ne
      | 2, _, _ => exact .inl ⟨_, rfl⟩
      | 3, _, ne => exact absurd rfl ne
      | 4, _, _ => exact .inl ⟨_, rfl⟩
      | 5, _, _ => exact .inl ⟨_, rfl⟩
      | 6, _, _ => exact .inl ⟨_, rfl⟩
      | 7, _, _ => exact .inl ⟨_, rfl⟩
      | 8, _, _ => exact .inr ⟨_, _, rfl⟩
      | 9, _, _ => exact .inl ⟨_, rfl⟩
      | 10, _, ne => exact absurd rfl ne
      | 11, _, ne => exact absurd rfl ne
      | 12, _, _ => exact .inr ⟨_, _, rfl⟩
      | 13, _, _ => exact .inr ⟨_, _, rfl⟩
      | 14, _, ne => exact absurd rfl ne
      | 15, _, ne => exact absurd rfl ne
      | 16, _, ne => exact absurd rfl ne
      | 17, _, _ => exact .inl ⟨_, rfl⟩
      | 18, _, _ => exact .inl ⟨_, rfl⟩
      | n + 19, h, _ => omega
    exact this c hc ne
  have names : ∀ f ∈ xfN c, (f == ("__debug__" : Str)) = false ∧ (f == ("__classdict__" : Str)) = false := by
    have : ∀ c < 19, ∀ f ∈ xfN c, (f == ("__debug__" : Str)) = false ∧ (f == ("__classdict__" : Str)) = false := by decide +kernel
    exact this c hc
  generalize xfN c = fs at *
  rcases shape with ⟨f, rfl⟩ | ⟨f, g, rfl⟩
  · obtain ⟨w1, rfl⟩ : ∃ w1, ws = [w1] := by
      cases ws with
      | nil => cases l
      | cons w1 ws => cases ws with
        | nil => exact ⟨w1, rfl⟩
        | cons _ _ => simp at l
    generalize L2.defBody st = b at hb
    cases b with
    | nil => exact hb.elim
    | cons s1 b =>
      obtain ⟨⟨q1, q2, q3, q4, e⟩, e'⟩ := hb
      cases (show b = [] from e')
      subst e
      obtain ⟨n1, n2⟩ := names f (by simp)
      refine ⟨_, L2.pss_one (ini_ps (i := 1) rfl rfl (par ("self" : Str) (by simp)) (par f (by simp)) n1 n2), ?_⟩
      exact ⟨w1, rfl, .ref a, rfl, a, C, rfl, T, no f (by simp), .inl ⟨ha, fun dx hd hn => q dx hd hn⟩⟩
  · obtain ⟨w1, w2, rfl⟩ : ∃ w1 w2, ws = [w1, w2] := by
      cases ws with
      | nil => cases l
      | cons w1 ws => cases ws with
        | nil => simp at l
        | cons w2 ws => cases ws with
          | nil => exact ⟨w1, w2, rfl⟩
          | cons _ _ => simp at l
    generalize L2.defBody st = b at hb
    cases b with
    | nil => exact hb.elim
    | cons s1 b => cases b with
    | nil => exact hb.2.elim
    | cons s2 b =>
      obtain ⟨⟨q1, q2, q3, q4, e⟩, ⟨p1, p2, p3, p4, e1⟩, e'⟩ := hb
      cases (show b = [] from e')
      subst e e1
      obtain ⟨n1, n2⟩ := names f (by simp)
      obtain ⟨n3, n4⟩ := names g (by simp)
      refine ⟨_, L2.pss_cons (ini_ps (i := 1) rfl rfl (par ("self" : Str) (by simp)) (par f (by simp)) n1 n2) (L2.pss_one (ini_ps (i := 2) rfl rfl (par ("self" : Str) (by simp)) (par g (by simp)) n3 n4)), ?_⟩
      refine ⟨w1, rfl, .ref a, rfl, a, C, rfl, T, no f (by simp), .inl ⟨ha, fun dx hd hn => ?_⟩⟩
      refine ⟨w2, rfl, .ref a, rfl, a, C, rfl, T, no g (by simp), .inr ⟨dx, [(f, w1)], upd_same, ?_, by simp, ?_⟩⟩
      · rw [upd_ne hn, upd_same]
      · have z := q dx hd hn
        rw [upd_comm (Ne.symm hn), upd_upd]
        exact z
end
end Itp
namespace Itp
open PySem PySem.Spec PyProof.Rows
open L2 (V Hp HO upd upd_same upd_ne ne_of ne_of_none Same Cx Inv RelV EP VK XK Sp FnOk PE PA PS PSs PMk MkP Raises Takes exo exd del del_ne del_same OexC tMkO Binds Room Vals TA Gl)
section
variable {X : Cx} {C : Addr} {bmB : List Value} {B newId initId : String}
/-- C() -/
theorem pmk_own0 {x : Str} {p pos : Pos} (F : ExcBaseFacts B newId initId bmB) (q : PySem.W.excIn X.K C bmB newId = true) (gC : X.mg x = some (.ref C)) (kC : PySem.W.keepIn X.K (.ref C) = true) (r : Raises X (.ref C)) (hg : Gl X x)
    (hdb : (x == ("__debug__" : Str)) = false) : PMk X (.Call (.Name x p) [] [] pos) (fun _ H Q => Q (.ref C) none H) := by
  intro pins s σ H Q I h
  refine wpAny_Call_Name_kw (L2.ld_glob I hg gC ?_ hdb)
  refine PySem.W.callWith_K0 I.kIn kC ?_
  obtain ⟨bm, N, nm, qn, bs, hdct, sn, sub, ab, col, dd, k0, k1, k2, k3, k5, mN, hC, hN, hni, T⟩ := L2.exc_obj I.kIn q
  refine wpAny_call_exc_subT F T hC hN hni (fun h' e hm => ?_) (by rw [sizeLine_eq]; exact Nat.zero_le _)
  exact L2.mk_of I hm r h (I.hok.gone hm.new)
end
theorem idOf_at {x : Str} : ∀ {l : List Str} {n c : Nat}, idOf x l n = some c → n ≤ c ∧ l[c - n]? = some x
  | [], _, _, h => by simp [idOf] at h
  | y :: ys, n, c, h => by
    unfold idOf at h
    split at h
    · rename_i e
      cases h
      exact ⟨Nat.le_refl _, by simp [e]⟩
    · obtain ⟨a, b⟩ := idOf_at h
      refine ⟨by omega, ?_⟩
      have : c - n = (c - (n + 1)) + 1 := by omega
      rw [this]
      simpa using b
theorem xId_of {gs : Gs} {sc : Scope} {x : Str} {c : Nat} (h : xId gs sc x = some c) : nameOk x = true ∧ isGl sc x = true ∧ xNm[c]? = some x ∧ c ∈ gs.xcs := by
  unfold xId at h
  split at h
  · cases h
  · rename_i hng
    simp only [Bool.or_eq_true, Bool.not_eq_true', not_or, Bool.not_eq_false] at hng
    split at h
    · rename_i d e
      split at h
      · rename_i hc
        cases h
        obtain ⟨_, q⟩ := idOf_at e
        exact ⟨hng.1, hng.2, by simpa using q, by simpa using hc⟩
      · cases h
    · cases h
theorem xNm_lt {c : Nat} {x : Str} (h : xNm[c]? = some x) : c < 19 := (List.getElem?_eq_some_iff.mp h).1
variable [KF]
theorem rva_scal {Hs H : Hp} : ∀ {xs : List D} {vs : List V}, RVA Hs H xs vs → xs.all D.isScal = true → vs = xs.map scV
  | [], _, h, _ => h
  | x :: xs, _, h, s => by
    obtain ⟨v, ws, rfl, a, b⟩ := h
    rw [List.all_cons, Bool.and_eq_true] at s
    rw [List.map_cons, rva_scal b s.2]
    congr 1
    cases x <;> first | exact a | (have z := s.1; cases z)
theorem xfs_eq {c : Nat} {ds : List D} : ((xfN c).zip (ds.map scV)).reverse = xFs c ds := by
  unfold xFs xfN
  rw [List.zip_map]
  rfl
theorem del_eq {H1 : Hp} {a d : Addr} {x y z u : HO} (ha : H1 a = none) (hd : d ≠ a) : upd (del (upd (upd (upd H1 a x) d y) a z) a) d u = upd H1 d u := by
  funext b
  by_cases h1 : b = d
  · subst h1; rw [upd_same, upd_same]
  · rw [upd_ne h1, upd_ne h1]
    by_cases h2 : b = a
    · subst h2; rw [del_same, ha]
    · rw [del_ne h2, upd_ne h2, upd_ne h1, upd_ne h2]
section
variable {T : Tab} {k : Nat} {gs : Gs} {N : List Str} {sc : Scope} {X : Cx} {Y : XP}
theorem ss_rse (g : GS T k gs N sc X Y) {n : Nat} {x : Str} {es : List Expr} {c : Nat} {a : E} {p pos pos2 : Pos} (hrz : gs.rz = true) (hx : xId gs sc x = some c) (hc : c ∈ gs.xrs) (hl : es.length = (xFl c).length) (ha : compAll (compE N gs n sc) es = some a) :
    PS X (.Raise (some (.Call (.Name x p) es [] pos)) none pos2) (TrS (call T k) Y (.rse c a)) := by
  have hC := call_mono T k
  obtain ⟨n1, n2, n3, n4⟩ := xId_of hx
  obtain ⟨A, hA, hR⟩ := g.gd.xcls
  obtain ⟨hcx, m⟩ := hR c hc
  have kc := hA c hcx
  obtain ⟨x', e1, mgx⟩ := kc.mg
  rw [n3] at e1
  cases e1
  have hgl : Gl X x := g.gd.gl n2
  have cls : ClsAt Y.mg c (.ref (A c)) := ⟨x, A c, n3, by rw [← g.gd.emg]; exact mgx, rfl⟩
  have rz : Raises X (.ref (A c)) := L2.raises_own kc.sb kc.ty
  have db := (nameOk_of n1).1
  have tk := g.gd.tk hrz
  cases es with
  | nil =>
    have fl : xFl c = [] := List.length_eq_zero_iff.mp hl.symm
    simp only [compAll, Option.some.injEq] at ha
    subst ha
    refine PS.imp (L2.ps_raise g.gd.calm tk (pmk_own0 F.excBase_ValueError (m.pl fl) mgx kc.kp rz hgl db)) fun D σ H q => ?_
    obtain ⟨st, Hs, ok, w⟩ := q
    simp only [wpS, wpA] at w
    obtain ⟨xs, e1, s1, s2, w⟩ := w
    simp only [viewAll, Option.some.injEq] at e1
    subst e1
    exact w σ H Hs ok Fr.refl (by rw [← g.gd.exr]; exact hc) rfl (by rw [fl]; rfl) _ cls
  | cons e0 es =>
    have fl : xFl c ≠ [] := fun z => by rw [z] at hl; cases hl
    obtain ⟨T1, fI, fd, st, qual, iC, tI, Fu, S, bi, bd⟩ := m.ini fl
    have pa := snd_A (snd_E n gs sc X Y g.gd) ha
    have sta := compAll_star ha
    have lx : (xfN c).length = (xFl c).length := by unfold xfN; simp
    refine PS.imp (L2.ps_raise g.gd.calm tk (L2.pmk_oex T1 iC tI (ini_ok T1 m.no fl (xNm_lt n3) Fu S bi) (g.gd.room.mono (by omega)) bd .nil L2.pass0 hgl mgx pa db (starEach_of (sta e0 List.mem_cons_self) _ _) (anyStar (fun e' he => sta e' (List.mem_cons_of_mem _ he)) _ _))) fun D σ H q => ?_
    obtain ⟨st, Hs, ok, w⟩ := q
    simp only [wpS] at w
    refine bindA hC ok w fun rs s1 vs H1 Hs1 w ok1 f1 r1 _ => ?_
    obtain ⟨xs, e1, s1', s2, w⟩ := w
    have ev := rva_scal (RA.views ok1 r1 e1) s1'
    subst ev
    refine ⟨by rw [List.length_map, s2, ← hl]; have : ∀ c < 19, (xFl c).length ≤ 2 := by decide
               have := this c (xNm_lt n3); omega, fun ad had => ?_⟩
    refine ⟨ad, _, rfl, by rw [List.append_nil, List.length_map, s2, lx], upd_same, fun d hd hn => ?_⟩
    have hd1 : H1 d = none := by rw [upd_ne hn] at hd; exact hd
    refine ⟨rfl, d, _, upd_same, by rw [upd_ne hn]; exact upd_same, hd1, ?_⟩
    rw [del_eq had hn, List.append_nil, xfs_eq]
    have q := w σ H1 Hs1 ok1 f1 (by rw [← g.gd.exr]; exact hc) s1' s2 _ cls
    cases xs with
    | nil => exact absurd (List.length_eq_zero_iff.mp s2.symm) fl
    | cons d0 ds => exact q d hd1
end
end Itp

/-! Exc2: try with clauses of any form. -/
namespace Itp
open PySem PySem.Spec PyProof.Rows
open L2 (V Hp HO TS WX Cx Inv Takes Zc PSs PS Ends SP Names Loc Sky frs Vis)
abbrev ClX := Value × Option Nat × (Addr → Value → Option Addr → TS)
/-- behind a clause's name -/
def outN (i : Nat) (D : Ends) : Ends := { nx := fun σ' H' => D.nx (σ'.set i none) H', rt := D.rt, bk := fun σ' H' => D.bk (σ'.set i none) H', ct := fun σ' H' => D.ct (σ'.set i none) H' }
/-- what the clauses wish of an exception of the body, one after the other -/
def wMix (K : PySem.W.Frag) (Wout : WX) (D : Ends) : List ClX → WX
  | [] => Wout
  | (c, i, ts) :: r => fun cls d σ H => ∃ b, PySem.W.exmOne K cls c = some b ∧ (b = true → ∀ a, H a = none → match i with
      | none => ts a cls d D σ H
      | some i => ts a cls d (outN i D) (σ.set i (some (.ref a))) H) ∧ (b = false → wMix K Wout D r cls d σ H)
inductive HdX (X : Cx) : List ExceptHandler → List ClX → Prop
  | nil : HdX X [] []
  | plain {x : Str} {c : Value} {ts : Addr → Value → Option Addr → TS} {b₀ : Stmt} {suite : List Stmt} {np pos' : Pos} {hds : List ExceptHandler} {l : List ClX} (hc : Names X x c)
      (hsu : ∀ (a : Addr) (oe : Obj) (cls : Value) (d : Option Addr) (pn : List (Addr × Obj)), Zc cls d oe → (∃ vs, oe.data = .fields vs) → PSs (X.suite a ((a, oe) :: pn)) (b₀ :: suite) (ts a cls d)) (r : HdX X hds l) :
      HdX X (.ExceptHandler (some (.Name x np)) none (b₀ :: suite) pos' :: hds) ((c, none, ts) :: l)
  | named {x n : Str} {i : Nat} {c : Value} {ts : Addr → Value → Option Addr → TS} {b₀ : Stmt} {suite : List Stmt} {np pos' : Pos} {hds : List ExceptHandler} {l : List ClX} (hc : Names X x c) (hi : X.N[i]? = some n) (hln : X.env.kindOf n = some .local)
      (hsu : ∀ (a : Addr) (oe : Obj) (cls : Value) (d : Option Addr) (pn : List (Addr × Obj)), Zc cls d oe → (∃ vs, oe.data = .fields vs) → PSs (X.suite a ((a, oe) :: pn)) (b₀ :: suite) (ts a cls d)) (r : HdX X hds l) :
      HdX X (.ExceptHandler (some (.Name x np)) (some n) (b₀ :: suite) pos' :: hds) ((c, some i, ts) :: l)
section
variable {X : Cx} {body orelse : List Stmt} {h₀ : ExceptHandler} {hds : List ExceptHandler} {l : List ClX} {pos : Pos} {tb : WX → TS} {u : TS} {Wout : WX}
theorem ps_tryX (hs : X.stack = X.env :: X.outer) (hf : X.env.frame = some X.env.locals) (hN : X.N.Nodup) (tk : Takes X Wout)
    (hb : ∀ (W : WX) (pn : List (Addr × Obj)) (xe : Value → Shared → Prop), Takes (X.tr pn xe) W → PassesOwn (model X.prog X.w) X.A X.env xe → PSs (X.tr pn xe) body (tb W))
    (hh : HdX X (h₀ :: hds) l) (ho : PSs X orelse u) : PS X (.Try body (h₀ :: hds) orelse [] pos) (fun D σ H => tb (wMix X.K Wout D l) { D with nx := u D } σ H) := by
  refine ⟨fun pins s σ H D I h => ?_⟩
  have ok := I.ok
  have hfr : X.A.frames = some (X.env :: X.outer) := by rw [ok.frames, hs]
  refine wpAny_Try_except ?_
  refine wpAny_mono ((hb (wMix X.K Wout D l) (X.pn ++ pins) (fun e s₁ => wpAny (model X.prog X.w) X.A (noteFrame e X.env) (fun _ s₂ => wpAny (model X.prog X.w) X.A (setFlight e none) (fun _ s₃ =>
    wpAny (model X.prog X.w) X.A (handleBy e X.env (h₀ :: hds)) (SP X pins D) X.xe s₃) X.xe s₂) X.xe s₁) (fun u s' xx => ?_) PassesOwn.looking).run [] s σ H { D with nx := u D } (I.toTry _) h) (fun f s1 hsp => ?_) (fun e s1 he => he)
  · -- the catch
    obtain ⟨a, B, sI, pins', σ', H', cls, d, rfl, J', nb, up, sky, na, os, ag, w⟩ := xx
    have J : Inv X pins σ' H' sI := J'.ofTry ok
    have sky' : Sky B (X.env :: X.outer) a (Zc cls d) X.env.locals s'.heap := by rw [← hs]; exact sky
    show wpAny (model X.prog X.w) X.A (noteFrame (.ref a) X.env) _ _ _
    refine Sky.land Zc.steady hfr hf sky' fun h3 fl3 up3 => ?_
    have J3 : Inv X pins σ' H' { s' with heap := h3 } := J.landed nb fl3.1 (up.trans up3) os ag
    obtain ⟨oe3, vs3, he3, hz3, hd3⟩ := fl3.there
    have notFr : ∀ {h : Heap} {o : Obj} {vs : Array Value}, h.FunFrames B (X.env :: X.outer) → h.get? a = some o → o.data = .fields vs → a ∉ frs (X.env :: X.outer) := fun {h o vs} ff e dd hm => by
      obtain ⟨_, o', e', hnf⟩ := ff.mem hm
      rw [e] at e'; cases e'
      exact hnf _ dd
    have nfr := notFr fl3.2.2.1 he3 hd3
    have nL : a ≠ X.env.locals := fun z => nfr (List.mem_filterMap.mpr ⟨X.env, List.mem_cons_self, by rw [hf, z]⟩)
    have nF : a ∉ X.fs := fun hm => by
      obtain ⟨e, he, q⟩ := List.mem_filterMap.mp hm
      exact nfr (List.mem_filterMap.mpr ⟨e, List.mem_cons_of_mem _ he, q⟩)
    have S3 := J3.suite he3 hd3 na nL nF
    have LT : PySem.W.Looks (model X.prog X.w) h3 (typeOf (.ref a)) cls := fun A Q E s k q => wpAny_typeOf_ref (k _ _ he3) (by rw [hz3.1]; exact q)
    have go : ∀ {hds' : List ExceptHandler} {l' : List ClX}, HdX X hds' l' → wMix X.K Wout D l' cls d σ' H' →
        wpAny (model X.prog X.w) X.A (handleBy (.ref a) X.env hds') (SP X pins D) X.xe { s' with heap := h3 } := by
      intro hds' l' hk
      induction hk with
      | nil =>
        intro w
        refine wpAny_handleBy_nil ?_
        obtain ⟨k1, k2, k3, oe, vs, T, oT, ts', he, hz, hd, h1, hr⟩ := id fl3
        unfold PySem.passOn
        refine wpAny_bind (wpAny_field he hd h1 ?_)
        rw [if_neg (show ¬ ((Value.ref T == Value.none) = true) from by simp)]
        have fin : wpAny (model X.prog X.w) X.A (setFlight (.ref a) X.env.frame) (fun _ s4 => wpAny (model X.prog X.w) X.A (throw (.ref a) : Sem Flow) (SP X pins D) X.xe s4) X.xe { s' with heap := h3 } := by
          rw [hf]
          refine HandSPX.setFlight_upZ fl3 fun h4 hh4 up4 => wpAny_throw (tk _ _ ?_)
          exact ⟨a, B, sI, pins, σ', H', cls, d, rfl, J, nb, (up.trans up3).trans up4, .inr (.inr (by rw [hs]; exact hh4)), na, os, ag, w⟩
        first
          | exact wpAny_bind (wpAny_pure (wpAny_bind fin))
          | exact wpAny_bind fin
      | @plain x c ts b₀ suite np pos' hds2 l2 hc hsu r ih =>
        intro w
        obtain ⟨b, hb1, hyes, hno⟩ := w
        refine wpAny_handleBy_cons (codeAny_handlers_test ?_) (by intro q; cases q)
        have LM := PySem.W.exm_one (M := model X.prog X.w) (J3.kIn) LT hb1
        have test : ∀ {Q : Value → Shared → Prop} {E : Value → Shared → Prop}, Q c { s' with heap := h3 } → wpAny (model X.prog X.w) (X.A.mark (some (.ref a))) (eval (.Name x np) X.env) Q E { s' with heap := h3 } := fun {Q E} q => by
          obtain ⟨hg, hdbg, hm | ⟨hm, hv, hnn⟩⟩ := hc
          · exact L2.ld_glob (X := X.suite a ((a, oe3) :: (X.pn ++ pins))) S3 hg hm q hdbg
          · exact L2.ld_blt (X := X.suite a ((a, oe3) :: (X.pn ++ pins))) S3 hg hm hv q hnn hdbg
        refine test (LM.here ?_)
        cases b with
        | true =>
          refine codeAny_handlers_suite ?_
          refine HandSPX.lands_againZ fl3 fun h4 fl4 up4 => ?_
          have J4 : Inv X pins σ' H' { s' with heap := h4 } := J.landed nb fl4.1 ((up.trans up3).trans up4) os ag
          obtain ⟨oe4, vs4, he4, hz4, hd4⟩ := fl4.there
          have S4 := J4.suite he4 hd4 na nL nF
          refine wpAny_mono ((hsu a oe4 cls d (X.pn ++ pins) hz4 ⟨_, hd4⟩).run [] _ _ H' _ S4 (hyes rfl a na)) (fun f s6 hsp => ?_) (fun _ _ z => False.elim z)
          cases f with
          | next =>
            obtain ⟨σ6, H6, S6, q6⟩ := hsp
            exact ⟨_, _, S6.unsuite ok, q6⟩
          | brk =>
            obtain ⟨σ6, H6, S6, q6⟩ := hsp
            exact ⟨_, _, S6.unsuite ok, q6⟩
          | cont =>
            obtain ⟨σ6, H6, S6, q6⟩ := hsp
            exact ⟨_, _, S6.unsuite ok, q6⟩
          | ret u =>
            obtain ⟨v6, σ6, H6, S6, r6, q6⟩ := hsp
            exact ⟨_, _, _, S6.unsuite ok, r6, q6⟩
        | false =>
          show wpAny _ X.A (handleBy (.ref a) X.env hds2) _ _ _
          exact ih (hno rfl)
      | @named x n i c ts b₀ suite np pos' hds2 l2 hc hi hln hsu r ih =>
        intro w
        have hloc : Loc X.env.scope n := .inl hln
        obtain ⟨b, hb1, hyes, hno⟩ := w
        refine wpAny_handleBy_cons (codeAny_handlers_test ?_) (by intro q; cases q)
        have LM := PySem.W.exm_one (M := model X.prog X.w) (J3.kIn) LT hb1
        have test : ∀ {Q : Value → Shared → Prop} {E : Value → Shared → Prop}, Q c { s' with heap := h3 } → wpAny (model X.prog X.w) (X.A.mark (some (.ref a))) (eval (.Name x np) X.env) Q E { s' with heap := h3 } := fun {Q E} q => by
          obtain ⟨hg, hdbg, hm | ⟨hm, hv, hnn⟩⟩ := hc
          · exact L2.ld_glob (X := X.suite a ((a, oe3) :: (X.pn ++ pins))) S3 hg hm q hdbg
          · exact L2.ld_blt (X := X.suite a ((a, oe3) :: (X.pn ++ pins))) S3 hg hm hv q hnn hdbg
        refine test (LM.here ?_)
        cases b with
        | true =>
          refine codeAny_handlers_suite_as ?_
          refine HandSPX.lands_againZ fl3 fun h4 fl4 up4 => ?_
          have J4 : Inv X pins σ' H' { s' with heap := h4 } := J.landed nb fl4.1 ((up.trans up3).trans up4) os ag
          obtain ⟨oe4, vs4, he4, hz4, hd4⟩ := fl4.there
          have S4 := J4.suite he4 hd4 na nL nF
          refine L2.store_ok (X := X.suite a ((a, oe4) :: (X.pn ++ pins))) (v := .ref a) S4 hN hi hloc rfl (fun s5 S5 => ?_) (.inr hln)
          refine wpAny_mono ((hsu a oe4 cls d (X.pn ++ pins) hz4 ⟨_, hd4⟩).run [] s5 _ H' _ S5 (hyes rfl a na)) (fun f s6 hsp => ?_) (fun _ _ z => False.elim z)
          have end_ : ∀ {σ6 : L2.St} {H6 : Hp} {Q : Shared → Prop}, L2.Inv (X.suite a ((a, oe4) :: (X.pn ++ pins))) [] σ6 H6 s6 → (∀ s7, L2.Inv X pins (σ6.set i none) H6 s7 → Q s7) →
              wpAny (model X.prog X.w) X.A (do bindName X.env n .none; unbindBehindTheSuite X.env n pos') (fun _ s7 => Q s7) X.xe s6 := fun {σ6 H6 Q} S6 hq => L2.gone_ok (S6.unsuite ok) hN hi hln hq
          cases f with
          | next =>
            obtain ⟨σ6, H6, S6, q6⟩ := hsp
            exact end_ S6 fun s7 J7 => ⟨_, _, J7, q6⟩
          | brk =>
            obtain ⟨σ6, H6, S6, q6⟩ := hsp
            exact end_ S6 fun s7 J7 => ⟨_, _, J7, q6⟩
          | cont =>
            obtain ⟨σ6, H6, S6, q6⟩ := hsp
            exact end_ S6 fun s7 J7 => ⟨_, _, J7, q6⟩
          | ret u =>
            obtain ⟨v6, σ6, H6, S6, r6, q6⟩ := hsp
            exact end_ S6 fun s7 J7 => ⟨_, _, _, J7, r6, q6⟩
        | false =>
          show wpAny _ X.A (handleBy (.ref a) X.env hds2) _ _ _
          exact ih (hno rfl)
    exact go hh w
  · cases f with
    | next =>
      obtain ⟨σ', H', J', q⟩ := hsp
      exact ho.run pins s1 σ' H' D (J'.ofTry ok) q
    | brk =>
      obtain ⟨σ', H', J', q⟩ := hsp
      exact ⟨σ', H', J'.ofTry ok, q⟩
    | cont =>
      obtain ⟨σ', H', J', q⟩ := hsp
      exact ⟨σ', H', J'.ofTry ok, q⟩
    | ret u =>
      obtain ⟨v, σ', H', J', r, q⟩ := hsp
      exact ⟨v, σ', H', J'.ofTry ok, r, q⟩
end
end Itp

/-! Exc3: within an except suite. -/
namespace Itp
variable [KF]
open PySem PySem.Spec PyProof.Rows
open L2 (V Hp HO upd upd_same upd_ne ne_of ne_of_none Same Cx OpR CallR MtR IxR SlR PSet TruR Room RelV EP VK SqL SqT Dp DpAll It TI TE TA TT TG TGs TS TO PI PE PT PW PA PG PGs PS PSs PO PTs PIE thn Gl Vis Loc Sp Binds Ends Vals Zc)
section
variable {T : Tab} {k : Nat} {X : Cx} {Y : XP}
/-- suites -/
theorem sss {f : Stmt → Option S} (ih : ∀ st b, f st = some b → PS X st (TrS (call T k) Y b)) : ∀ {ss : List Stmt} {b : S}, compSs f ss = some b → PSs X ss (TrS (call T k) Y b)
  | [], b, h => by
    simp only [compSs, Option.some.injEq] at h
    subst h
    refine PSs.imp L2.pss_nil fun D σ H q => ?_
    obtain ⟨st, Hs, ok, w⟩ := q
    simp only [wpS] at w
    exact w σ H Hs ok Fr.refl
  | [s], b, h => by
    simp only [compSs] at h
    exact L2.pss_one (ih _ _ h)
  | s :: s2 :: ss, b, h => by
    have hC := call_mono T k
    unfold compSs at h
    split at h
    · rename_i x y h1 h2
      cases h
      refine PSs.imp (L2.pss_cons (ih _ _ h1) (sss ih h2)) fun D σ H q => ?_
      obtain ⟨st, Hs, ok, w⟩ := q
      simp only [wpS] at w
      refine ⟨st, Hs, ok, ?_⟩
      refine wpS_mono hC _ _ _ _ ?_ w
      exact ⟨fun s3 q σ3 H3 Hs3 k4 f5 => goS hC k4 f5 q, fun r s q => q, fun s q => q, fun s q => q, fun _ _ _ q => q, rfl, rfl⟩
    · cases h
end
/-! ### of the exception that is handled -/
structure GH (gs : Gs) (N : List Str) (sc : Scope) (X : Cx) (Y : XP) (A : Nat → Addr) (a : Addr) (oe : Obj) (c : Nat) (d : Option Addr) : Prop where
  gh : Gh N sc X
  fn : ∀ x, X.fn x = true
  pin : (a, oe) ∈ X.pn
  hz : Zc (.ref (A c)) d oe
  hf : ∃ vs, oe.data = .fields vs
  cur : Y.cur = some (a, c, d) ∨ Y.cur = none
  ca : ∀ c ∈ gs.xcs, XcOk X.K X.mg gs.xcs A c
  hc : c ∈ gs.xcs
  hm : XmOk X.K c (A c)
  mgV : X.mg "ValueError" = none
section
variable {T : Tab} {k : Nat} {gs : Gs} {N : List Str} {sc : Scope} {X : Cx} {Y : XP} {A : Nat → Addr} {a : Addr} {oe : Obj} {c : Nat} {d : Option Addr}
theorem GH.xo (G : GH gs N sc X Y A a oe c d) : XcOk X.K X.mg gs.xcs A c := G.ca c G.hc
theorem GH.cls (G : GH gs N sc X Y A a oe c d) : (PySem.W.clsIn X.K (A c)).isSome = true := by
  obtain ⟨cd, h, _⟩ := PySem.W.any_some G.xo.hd
  rw [h]; rfl
/-- the object as it stands -/
theorem GH.inst (G : GH gs N sc X Y A a oe c d) {pins : List (Addr × Obj)} {σ : L2.St} {H : Hp} {s : Shared} (I : L2.Inv X pins σ H s) (hd : ∀ dd, d = some dd → ∃ fs, H dd = some (.xd fs)) : ∃ od, PySem.W.InstAt s.heap a oe (A c) od := by
  obtain ⟨hget, _⟩ := I.pin (a, oe) (List.mem_append_left _ G.pin)
  obtain ⟨vs, hv⟩ := G.hf
  have no : PySem.W.notCls oe = true := by unfold PySem.W.notCls; rw [hv]
  cases hdd : d with
  | none => exact ⟨none, hget, G.hz.1, no, by rw [G.hz.2, hdd]; trivial⟩
  | some dd =>
    obtain ⟨fs, e⟩ := hd dd hdd
    obtain ⟨mA, ⟨o, _, _, ho, _⟩, _⟩ := I.hok dd _ e
    exact ⟨some o, hget, G.hz.1, no, by rw [G.hz.2, hdd]; exact ho⟩
theorem GH.kit (G : GH gs N sc X Y A a oe c d) {c' : Nat} (h : c' ∈ gs.xcs) : PySem.W.kitOne X.K (.ref (A c)) (.ref (A c')) = some (xsub c c') := by
  have x' := G.ca c' h
  have su := G.xo.su c' h
  unfold PySem.W.kitOne
  split
  · rename_i e
    have e1 : A c = A c' := Value.ref.inj (beq_iff_eq.mp e)
    have s2 := G.xo.su c G.hc
    rw [e1] at s2 su
    have s3 := (G.ca c' h).su c' h
    rw [s2] at su
    have : xsub c c = true := by unfold xsub; simp
    rw [this] at su
    exact su
  · unfold PySem.W.kitCls
    obtain ⟨cd, hcd, _⟩ := PySem.W.any_some x'.hd
    have e2 : ((PySem.W.clsIn X.K (A c')).isSome && PySem.W.typeIn X.K (.ref (A c')) == some (.type "type")) = true := by rw [hcd, x'.ty]; rfl
    show (if ((PySem.W.clsIn X.K (A c')).isSome && PySem.W.typeIn X.K (.ref (A c')) == some (.type "type")) = true then PySem.W.subIn X.K (.ref (A c)) (.ref (A c')) else none) = _
    rw [if_pos e2]
    exact su
theorem GH.kitV (G : GH gs N sc X Y A a oe c d) : PySem.W.kitOne X.K (.ref (A c)) (.type "ValueError") = some true := by
  unfold PySem.W.kitOne
  rw [if_neg (by intro z; have := beq_iff_eq.mp z; cases this)]
  show (if PySem.W.kitMeta "ValueError" = true then PySem.W.subIn X.K (.ref (A c)) (.type "ValueError") else none) = _
  rw [if_pos (by decide +kernel)]
  exact G.xo.sv
theorem GH.kitA (G : GH gs N sc X Y A a oe c d) : ∀ {cs : List Nat}, (∀ c' ∈ cs, c' ∈ gs.xcs) → PySem.W.kitAny X.K (.ref (A c)) (cs.map fun c' => .ref (A c')) = some (cs.any (xsub c))
  | [], _ => rfl
  | c' :: cs, h => by
    rw [List.map_cons, List.any_cons]
    unfold PySem.W.kitAny
    rw [G.kit (h c' List.mem_cons_self)]
    cases e : xsub c c' with
    | true => rfl
    | false =>
      simp only [Bool.false_or]
      exact GH.kitA G fun x hx => h x (List.mem_cons_of_mem _ hx)
/-- isinstance of it -/
def rIsx (K : PySem.W.Frag) (a : Addr) (cls : Value) (d : Option Addr) : List V → Hp → VK → Prop := fun vs H Q => ∃ cv b, vs = [.ref a, cv] ∧ (∀ dd, d = some dd → ∃ fs, H dd = some (.xd fs)) ∧
  ((∀ u, RelV cv u → PySem.W.kitOne K cls u = some b) ∨ ∃ t us, cv = .ref t ∧ H t = some (.tup us) ∧ ∀ its, Vals us its → PySem.W.kitAny K cls its = some b) ∧ Q (.bl b) H
theorem isx_R (G : GH gs N sc X Y A a oe c d) : CallR X (.builtin "isinstance") (rIsx X.K a (.ref (A c)) d) := by
  intro pins s σ H vs us Q I r h
  obtain ⟨cv, b, rfl, hd, h, q⟩ := h
  cases r with
  | cons rx rr =>
    cases rr with
    | @cons _ u _ _ rt rr =>
      cases rr
      cases rx
      obtain ⟨od, J⟩ := G.inst I hd
      have Z := PySem.W.kitx_exc (K := X.K) (x := a) (ox := oe) (od := od) G.cls G.hm.ga G.hm.gg G.xo.sb G.hm.ha G.hm.hn G.hm.ht G.hm.hm
      rcases h with e | ⟨t, ws, rfl, ht, e⟩
      · exact PySem.W.kia_one Z I.kIn J (e _ rt) (fun z => nomatch z) fun tk => ⟨.bl b, H, I.kept (t' := tk) fun _ _ z => z, rfl, q⟩
      · cases rt
        obtain ⟨its, rv, pl, _⟩ := I.tuple (SqT.of ht)
        obtain ⟨o, ho, hc, n, hdat⟩ := (show s.heap.IsTuple t its.toArray from pl)
        obtain ⟨oc, od', oda, osl⟩ := o
        dsimp only at hc hdat
        subst hc hdat
        exact PySem.W.kia_tup Z I.kIn J ho (e its rv) (fun z => nomatch z) fun tk => ⟨.bl b, H, I.kept (t' := tk) fun _ _ z => z, rfl, q⟩
theorem xIds_of {ts : List Expr} {cs : List Nat} (h : xIds gs sc ts = some cs) : (∀ c' ∈ cs, c' ∈ gs.xcs) ∧ ts.length = cs.length ∧ ∀ e ∈ ts, ∃ x p c', e = .Name x p ∧ xId gs sc x = some c' := by
  induction ts generalizing cs with
  | nil => simp only [xIds, Option.some.injEq] at h; subst h; exact ⟨fun _ h => absurd h List.not_mem_nil, rfl, fun _ h => absurd h List.not_mem_nil⟩
  | cons e ts ih =>
    cases e <;> first | (simp [xIds] at h; done) | skip
    rename_i x p
    simp only [xIds] at h
    split at h
    · rename_i c1 cs1 h1 h2
      cases h
      obtain ⟨a1, a2, a3⟩ := ih h2
      refine ⟨fun z hz => ?_, by simp [a2], fun z hz => ?_⟩
      · rcases List.mem_cons.mp hz with e | e
        · subst e; exact (xId_of h1).2.2.2
        · exact a1 z e
      · rcases List.mem_cons.mp hz with e | e
        · subst e; exact ⟨x, p, c1, rfl, h1⟩
        · exact a3 z e
    · cases h
theorem pe_cls (G : GH gs N sc X Y A a oe c d) {x : Str} {p : Pos} {c' : Nat} (h : xId gs sc x = some c') : PE X (.Name x p) (L2.tC (.ref (A c'))) := by
  obtain ⟨n1, n2, n3, n4⟩ := xId_of h
  obtain ⟨x', e1, mgx⟩ := (G.ca c' n4).mg
  rw [n3] at e1
  cases e1
  exact L2.pe_glob (G.gh.gl n2) mgx rfl (nameOk_of n1).1
theorem pa_clss (G : GH gs N sc X Y A a oe c d) : ∀ {ts : List Expr} {cs : List Nat}, xIds gs sc ts = some cs → PA X ts fun σ H Q => Q (cs.map fun c' => V.ref (A c')) H
  | [], cs, h => by
    simp only [xIds, Option.some.injEq] at h
    subst h
    exact L2.pa_nil
  | e :: ts, cs, h => by
    cases e <;> first | (simp [xIds] at h; done) | skip
    rename_i x p
    simp only [xIds] at h
    split at h
    · rename_i c1 cs1 h1 h2
      cases h
      exact L2.pa_cons (pe_cls G h1) (pa_clss G h2) rfl
    · cases h
/-- what the handled exception's value tells -/
theorem exc_view (G : GH gs N sc X Y A a oe c d) {σ : L2.St} {st : St} {Hs H : Hp} {r : R} {v : V} {x : D} {X0 : Xc} (ok : Ok σ st Hs H) (rr : RRep σ st Hs H v r) (e : view r st = some x) (hx : X0.cur = Y.cur) {cs : List Nat} {Q : Bool → Prop} (w : isXc X0 x cs Q) :
    v = .ref a ∧ (∀ dd, d = some dd → ∃ fs, H dd = some (.xd fs)) ∧ Q (cs.any (xsub c)) := by
  unfold isXc at w
  split at w
  · rename_i a' dd c' ds
    obtain ⟨e1, q⟩ := w
    rw [hx] at e1
    have e1 : some (a, c, d) = some (a', c', dd) := by
      rcases G.cur with z | z
      · rw [z] at e1; exact e1
      · rw [z] at e1; cases e1
    cases e1
    obtain ⟨ev, s1, s2, s3⟩ := ok.view rr e
    exact ⟨ev, fun dd hd => ⟨_, ok.sub _ _ (s3 dd hd)⟩, q⟩
  · exact w.elim
theorem se_isx1 (G : GH gs N sc X Y A a oe c d) {p pos pt : Pos} {e0 : Expr} {x : E} {t : Str} {js : List Nat} (he : SE T k X Y e0 x) (hns : ∀ a b, e0 ≠ .Starred a b) (hg : isGl sc "isinstance" = true) {cv : V} (ht : PE X (.Name t pt) (L2.tC cv)) (hk : ∀ u, RelV cv u → PySem.W.kitOne X.K (.ref (A c)) u = some (js.any (xsub c))) :
    SE T k X Y (.Call (.Name "isinstance" p) [e0, .Name t pt] [] pos) (.isx x js) := by
  have hC := call_mono T k
  refine SE.mk' (PE.imp (L2.pe_callB (isx_R G) (G.gh.gl hg) (G.gh.blt _ (by decide)) bb_isi (L2.pa_cons he.pe (L2.pa_cons ht L2.pa_nil rfl) (starEach_of hns _ _)) (by decide) (by decide) (starEach_of hns _ _) rfl) fun σ H Q q => ?_) (fun _ => rfl) (fun st Q w => by simpa only [wpT] using w) (fun _ _ _ => by simp)
  obtain ⟨st, Hs, ok, w⟩ := q
  simp only [wpE] at w
  refine bindE hC ok w fun r s1 v H1 Hs1 w ok1 f1 r1 n1 => ?_
  obtain ⟨dx, e, w⟩ := w
  obtain ⟨rfl, hd, q⟩ := exc_view G ok1 r1 e rfl w
  exact ⟨cv, _, rfl, hd, .inl hk, q _ H1 Hs1 ok1 f1 rfl fun a ha => by simp [tmp] at ha⟩
theorem se_isxA (G : GH gs N sc X Y A a oe c d) {p pos pt : Pos} {e0 : Expr} {x : E} {ts : List Expr} {kk : Nat} {js : List Nat} (he : SE T k X Y e0 x) (hns : ∀ a b, e0 ≠ .Starred a b) (hg : isGl sc "isinstance" = true) (ht : xIds gs sc ts = some js) (hl : js.length ≤ 100) :
    SE T k X Y (.Call (.Name "isinstance" p) [e0, .Tuple ts kk pt] [] pos) (.isx x js) := by
  have hC := call_mono T k
  obtain ⟨j1, j2, _⟩ := xIds_of ht
  refine SE.mk' (PE.imp (L2.pe_callB (isx_R G) (G.gh.gl hg) (G.gh.blt _ (by decide)) bb_isi (L2.pa_cons he.pe (L2.pa_cons (L2.pe_tup (pa_clss G ht)) L2.pa_nil rfl) (starEach_of hns _ _)) (by decide) (by decide) (starEach_of hns _ _) rfl) fun σ H Q q => ?_) (fun _ => rfl) (fun st Q w => by simpa only [wpT] using w) (fun _ _ _ => by simp)
  obtain ⟨st, Hs, ok, w⟩ := q
  simp only [wpE] at w
  refine bindE hC ok w fun r s1 v H1 Hs1 w ok1 f1 r1 n1 => ?_
  obtain ⟨dx, e, w⟩ := w
  obtain ⟨rfl, hd, q⟩ := exc_view G ok1 r1 e rfl w
  refine ⟨by rw [List.length_map, sizeLine_eq]; omega, fun p hp => ?_⟩
  refine ⟨.ref p, _, rfl, fun dd e => ?_, .inr ⟨p, _, rfl, upd_same, fun its rv => ?_⟩, q _ _ Hs1 (ok1.lay hp) (f1.trans (Fr.lay ok1 hp)) rfl fun a ha => by simp [tmp] at ha⟩
  · obtain ⟨fs, e2⟩ := hd dd e
    exact ⟨fs, by rw [upd_ne (ne_of_none e2 hp)]; exact e2⟩
  · have : ∀ {cs : List Nat} {its : List Value}, Vals (cs.map fun c' => V.ref (A c')) its → its = cs.map fun c' => Value.ref (A c') := by
      intro cs
      induction cs with
      | nil => intro its h; cases h; rfl
      | cons c1 cs ih =>
        intro its h
        cases h with
        | cons h1 h2 => cases h1; rw [ih h2]; rfl
    rw [this rv]
    exact G.kitA j1
/-- an exception's field, by its name -/
theorem xlook {c f : Nat} {ds : List D} {z : D} (hc : c < 19) (hl : ds.length = (xFl c).length) (h : lookN f (xFl c) ds = some z) : ∃ n, fNm[f]? = some n ∧ n ∈ xfN c ∧ (xFs c ds).lookup n = some (scV z) ∧ z ∈ ds := by
  have two : ∀ {l : List Nat} {f : Nat} {ds : List D} {z : D}, lookN f l ds = some z → ∃ i : Nat, l[i]? = some f ∧ ds[i]? = some z := by
    intro l
    induction l with
    | nil => intro f ds z h; simp [lookN] at h
    | cons g gs ih =>
      intro f ds z h
      cases ds with
      | nil => simp [lookN] at h
      | cons d ds =>
        simp only [lookN] at h
        split at h
        · rename_i e
          cases h
          exact ⟨0, by rw [Nat.eq_of_beq_eq_true e]; rfl, rfl⟩
        · obtain ⟨i, a, b⟩ := ih h
          exact ⟨i + 1, by simpa using a, by simpa using b⟩
  obtain ⟨i, e1, e2⟩ := two h
  have shape : ∀ c < 19, ∀ (i f : Nat), (xFl c)[i]? = some f → ∃ n, fNm[f]? = some n ∧ n ∈ xfN c := by
    intro c hc i f e
    have hf : ∀ c < 19, ∀ f ∈ xFl c, ∃ n, fNm[f]? = some n := by
      have : ∀ c < 19, ∀ f ∈ xFl c, (fNm[f]?).isSome = true := by decide +kernel
      exact fun c hc f hf => Option.isSome_iff_exists.mp (this c hc f hf)
    obtain ⟨n, en⟩ := hf c hc f (List.mem_of_getElem? e)
    exact ⟨n, en, by unfold xfN; exact List.mem_map.mpr ⟨f, List.mem_of_getElem? e, by rw [en]; rfl⟩⟩
  obtain ⟨n, en, hn⟩ := shape c hc i f e1
  refine ⟨n, en, hn, ?_, List.mem_of_getElem? e2⟩
  -- one or two fields
  have fields : ∀ c < 19, xFl c = [] ∨ (∃ g, xFl c = [g]) ∨ ∃ g g', xFl c = [g, g'] ∧ (fNm[g]?).getD ("" : Str) ≠ (fNm[g']?).getD ("" : Str) := by
    intro c hc
    have : ∀ c < 19, xFl c = [] ∨ (xFl c).length = 1 ∨ xFl c = [3, 4] ∨ xFl c = [6, 0] := by decide +kernel
    rcases this c hc with z | z | z | z
    · exact .inl z
    · obtain ⟨g, e⟩ := List.length_eq_one_iff.mp z
      exact .inr (.inl ⟨g, e⟩)
    · exact .inr (.inr ⟨_, _, z, by decide +kernel⟩)
    · exact .inr (.inr ⟨_, _, z, by decide +kernel⟩)
  rcases fields c hc with z | ⟨g, z⟩ | ⟨g, g', z, ng⟩
  · rw [z] at e1; simp at e1
  · rw [z] at e1 hl
    have hi : i = 0 := by
      have := (List.getElem?_eq_some_iff.mp e1).1
      simp at this; exact this
    subst hi
    simp at e1
    subst e1
    obtain ⟨d0, rfl⟩ := List.length_eq_one_iff.mp hl
    simp at e2
    subst e2
    unfold xFs
    rw [z]
    simp [List.lookup, en]
  · rw [z] at e1 hl
    obtain ⟨d0, d1, rfl⟩ : ∃ d0 d1, ds = [d0, d1] := by
      cases ds with
      | nil => simp at hl
      | cons d0 ds => cases ds with
        | nil => simp at hl
        | cons d1 ds => cases ds with
          | nil => exact ⟨d0, d1, rfl⟩
          | cons _ _ => simp at hl
    unfold xFs
    rw [z]
    have hi : i = 0 ∨ i = 1 := by
      have := (List.getElem?_eq_some_iff.mp e1).1
      simp at this; omega
    rcases hi with rfl | rfl
    · simp at e1 e2
      subst e1 e2
      rw [en] at ng
      have ng' : (n == (fNm[g']?).getD ("" : Str)) = false := by simpa using ng
      simp [List.lookup, en, ng']
    · simp at e1 e2
      subst e1 e2
      simp [List.lookup, en]
theorem scal_sh {Hs : Hp} {z : D} (h : z.isScal = true) : Sh Hs z (scV z) := by cases z <;> first | rfl | cases h
theorem se_xat (G : GH gs N sc X Y A a oe c d) {p : Pos} {e0 : Expr} {x : E} {f : Str} {j : Nat} (he : SE T k X Y e0 x) (hj : idOf f fNm 0 = some j) (hb : attributeBase e0 f X.env (eval e0 X.env) = eval e0 X.env) : SE T k X Y (.Attribute e0 f p) (.xat x j) := by
  have hC := call_mono T k
  obtain ⟨_, ej⟩ := idOf_at hj
  rw [Nat.sub_zero] at ej
  have pe : PE X (.Attribute e0 f p) fun σ H Q => TrE (call T k) Y x σ H fun v H1 => v = .ref a ∧ ∃ (dd : Addr) (ds : List D) (z : D), d = some dd ∧ H1 dd = some (.xd (xFs c ds)) ∧ ds.length = (xFl c).length ∧ lookN j (xFl c) ds = some z ∧ Q (scV z) H1 := by
    refine ⟨fun pins s σ H Q I h => ?_⟩
    refine L2.attr_of hb (thn (he.pe.run pins s σ H _ I h) fun u s1 hh => ?_)
    obtain ⟨v, H1, I1, rv, ev, dd, ds, z, ed, ea, el, ez, q⟩ := hh
    subst ev
    obtain rfl : u = Value.ref a := rv
    have hlt : c < 19 := by
      obtain ⟨n, e, _⟩ := G.xo.mg
      exact xNm_lt e
    obtain ⟨n, en, hn, hlk, _⟩ := xlook hlt el ez
    rw [ej] at en
    cases en
    obtain ⟨od, J⟩ := G.inst I1 (fun dd' e => by rw [ed] at e; cases e; exact ⟨_, ea⟩)
    have hx : L2.ObjOk X.prog X.w H1 s1.heap dd (.xd (xFs c ds)) := I1.hok dd _ ea
    obtain ⟨mA, hns, hr⟩ := hx
    obtain ⟨oo, ho, hl⟩ := L2.lookIn_ns hns
    obtain ⟨u', hu, ru⟩ := L2.RelO.some_of (v := scV z) (o := mA f) (by rw [← hlk]; exact hr f)
    have J' : PySem.W.InstAt s1.heap a oe (A c) (some oo) := ⟨J.at_, J.cls, J.no, by rw [G.hz.2, ed]; exact ho⟩
    exact HandSPX.exc_get I1.kIn J' G.hm.ga G.hm.gg G.xo.sb (PySem.W.findObj_own G.xo.hd (G.hm.no f hn) rfl (by rw [hl, hu])) (L2.handed_of ru) ⟨scV z, H1, I1.tok _, ru, q⟩
  refine SE.mk' (PE.imp pe fun σ H Q q => ?_) (fun _ => rfl) (fun st Q w => by simpa only [wpT] using w) (fun _ _ _ => by simp)
  obtain ⟨st, Hs, ok, w⟩ := q
  simp only [wpE] at w
  refine bindE hC ok w fun r s1 v H1 Hs1 w ok1 f1 r1 n1 => ?_
  obtain ⟨dx, e, w⟩ := w
  unfold atXc at w
  split at w
  · rename_i a' dd c' ds
    obtain ⟨e1, z, ez, q⟩ := w
    have e1 : Y.cur = _ := e1
    have e1 : some (a, c, d) = some (a', c', some dd) := by
      rcases G.cur with z | z
      · rw [z] at e1; exact e1
      · rw [z] at e1; cases e1
    cases e1
    obtain ⟨ev, s1', s2, s3⟩ := ok1.view r1 e
    have hlt : c < 19 := by
      obtain ⟨n, e, _⟩ := G.xo.mg
      exact xNm_lt e
    obtain ⟨_, _, _, _, hm⟩ := xlook hlt s2 ez
    have hs := List.all_eq_true.mp s1' z hm
    exact ⟨ev, dd, ds, z, rfl, ok1.sub _ _ (s3 dd rfl), s2, ez, q _ H1 Hs1 ok1 f1 (scal_sh hs) fun a ha => by simp [tmp] at ha⟩
  · exact w.elim
theorem se_intH (g : Gh N sc X) {p pos : Pos} {e0 : Expr} {x : E} (he : SE T k X Y e0 x) (hns : ∀ a b, e0 ≠ .Starred a b) (hg : isGl sc "int" = true) : SE T k X Y (.Call (.Name "int" p) [e0] [] pos) (.blt .int (.cons x .nil)) := by
  have hC := call_mono T k
  refine SE.mk' (PE.imp (L2.pe_callTy L2.call_int1 (g.gl hg) (g.blt _ (by decide)) PyProof.Rows.Boot.int (L2.pa_cons he.pe L2.pa_nil (starEach_of hns _ _)) (by decide) (by decide) (starEach_of hns _ _) rfl) fun σ H Q q => ?_) (fun _ => rfl) (fun st Q w => by simpa only [wpT] using w) (fun _ _ _ => by simp)
  obtain ⟨st, Hs, ok, w⟩ := q
  simp only [wpE, wpA] at w
  refine bindE hC ok w fun r s1 v H1 Hs1 w ok1 f1 r1 n1 => ?_
  obtain ⟨xs, e, w⟩ := w
  simp only [viewAll] at e
  cases ev : view r s1 with
  | none => rw [ev] at e; cases e
  | some y =>
    rw [ev] at e
    cases e
    have rv := ok1.view r1 ev
    unfold bltin at w
    split at w <;> first
      | (rename_i h; cases h; done)
      | (rename_i hb h; cases hb; done)
      | skip
    all_goals first
      | exact w.elim
      | (rename_i hb h
         cases h
         cases (show v = _ from rv)
         first
           | exact .inl ⟨_, rfl, w _ H1 Hs1 ok1 f1 rfl fun a ha => by simp [tmp] at ha⟩
           | exact .inr ⟨_, rfl, w _ H1 Hs1 ok1 f1 rfl fun a ha => by simp [tmp] at ha⟩)
theorem compX_set0 {n : Nat} : ∀ a b c, compX N gs sc n (.Set a b c) = none := by
  intro a b c
  cases n <;> simp [compX]
theorem compX_set {n : Nat} {ex : Expr} {e : E} (h : compX N gs sc n ex = some e) : ∀ a b c, ex ≠ .Set a b c := by
  intro a b c z
  subst z
  rw [compX_set0] at h
  cases h
theorem compX_star {n : Nat} {ex : Expr} {e : E} (h : compX N gs sc n ex = some e) : ∀ x p, ex ≠ .Starred x p := by
  intro a b z
  subst z
  cases n <;> simp [compX] at h
/-- a suite's expression -/
theorem sx_E (G : GH gs N sc X Y A a oe c d) : ∀ (n : Nat) (ex : Expr) (e : E), compX N gs sc n ex = some e → SE T k X Y ex e
  | 0, ex, e, h => by simp [compX] at h
  | n + 1, ex, e, h => by
    have ih := sx_E G n
    unfold compX at h
    split at h
    · rename_i x p
      split at h
      · rename_i hn
        have lc : ∀ {i}, ixOf N x = some i → (sc.names.lookup x = some .local ∨ sc.names.lookup x = some .cell ∨ sc.names.lookup x = some .free) → SE T k X Y (.Name x p) (.var i) := fun hi hv =>
          SE.mk' (pe_varT G.gh hi hn hv) (fun _ => rfl) (fun st Q w => by simpa only [wpT] using w) (fun _ _ _ => by simp)
        split at h
        · rename_i q; simp only [Option.map_eq_some_iff] at h; obtain ⟨i, hi, rfl⟩ := h; exact lc hi (.inl q)
        · rename_i q; simp only [Option.map_eq_some_iff] at h; obtain ⟨i, hi, rfl⟩ := h; exact lc hi (.inr (.inl q))
        · cases h
      · cases h
    · split at h
      · cases h; exact SE.mk' (pe_cstT L2.pe_non fun _ => rfl) (fun _ => rfl) (fun st Q w => by simpa only [wpT] using w) (fun _ _ _ => by simp)
      · cases h; exact SE.mk' (pe_cstT L2.pe_bl fun _ => rfl) (fun _ => rfl) (fun st Q w => by simp only [wpT] at w; simp only [wpE]; exact ⟨_, rfl, w⟩) (fun _ _ _ => by simp)
      · cases h; exact SE.mk' (pe_cstT L2.pe_int fun _ => rfl) (fun _ => rfl) (fun st Q w => by simpa only [wpT] using w) (fun _ _ _ => by simp)
      · cases h; exact SE.mk' (pe_cstT L2.pe_str fun _ => rfl) (fun _ => rfl) (fun st Q w => by simpa only [wpT] using w) (fun _ _ _ => by simp)
      · cases h
    · split at h <;> first | (cases h; done) | (rename_i h1 h2; cases h; exact se_bin (ih _ _ h1) (ih _ _ h2))
    · simp only [Option.map_eq_some_iff] at h; obtain ⟨x, hx, rfl⟩ := h; exact se_not (ih _ _ hx)
    · split at h <;> first | (cases h; done) | (rename_i h1 h2; cases h; exact se_cmp G.gh (ih _ _ h1) (ih _ _ h2) (marks_of (compX_set h2)))
    · exact se_one (ih _ _ h)
    · split at h <;> first | (cases h; done) | (rename_i h1 h2; cases h; exact se_and (ih _ _ h1) (ih _ _ h2))
    · split at h <;> first | (cases h; done) | (rename_i h1 h2; cases h; exact se_or (ih _ _ h1) (ih _ _ h2))
    · split at h <;> first | (cases h; done) | (rename_i h1 h2 h3; cases h; exact se_ite (ih _ _ h1) (ih _ _ h2) (ih _ _ h3))
    · simp only [Option.map_eq_some_iff] at h; obtain ⟨x, hx, rfl⟩ := h; exact se_tup (snd_AF ih (fun _ _ h => compX_star h) hx)
    · simp only [Option.map_eq_some_iff] at h; obtain ⟨x, hx, rfl⟩ := h; exact se_lst (snd_AF ih (fun _ _ h => compX_star h) hx)
    · split at h
      · cases h
      · rename_i hsl
        split at h <;> first | (cases h; done) | (rename_i h1 h2; cases h; exact se_idx G.gh.un (ih _ _ h1) (ih _ _ h2) (plainIx_of fun a b c p z => hsl a b c p z))
    · split at h <;> first | (cases h; done) | (rename_i h1 h2; cases h; exact se_xat G (ih _ _ h1) h2 rfl)
    · split at h
      · cases h
      · rename_i hng
        simp only [Bool.or_eq_true, Bool.not_eq_true', not_or, Bool.not_eq_false] at hng
        split at h
        · rename_i e; subst e
          simp only [Option.map_eq_some_iff] at h; obtain ⟨x, hx, rfl⟩ := h
          exact se_intH G.gh (ih _ _ hx) (compX_star hx) hng.1.2
        · cases h
    · split at h
      · cases h
      · rename_i hng
        simp only [Bool.or_eq_true, Bool.not_eq_true', not_or, Bool.not_eq_false] at hng
        split at h
        · rename_i e; subst e
          split at h
          · split at h
            · rename_i ht
              split at h
              · cases h
              · rename_i hng2
                simp only [Bool.or_eq_true, Bool.not_eq_true', not_or, Bool.not_eq_false] at hng2
                simp only [Option.map_eq_some_iff] at h; obtain ⟨x, hx, rfl⟩ := h
                exact se_isi G.gh (ih _ _ hx) (compX_star hx) hng.1.2 ht hng2.1 hng2.2
            · split at h
              · rename_i e; subst e
                split at h
                · rename_i hgl
                  simp only [Option.map_eq_some_iff] at h; obtain ⟨x, hx, rfl⟩ := h
                  refine se_isx1 G (ih _ _ hx) (compX_star hx) hng.1.2 (L2.pe_bltn (v := .ty "ValueError") (G.gh.gl hgl) G.mgV PyProof.Rows.Boot.«ValueError» rfl (by decide) (by decide)) fun u hu => ?_
                  cases hu
                  rw [G.kitV]
                  simp [xsub]
                · cases h
              · split at h <;> first | (cases h; done) | skip
                rename_i h1 h2
                cases h
                refine se_isx1 G (ih _ _ h1) (compX_star h1) hng.1.2 (pe_cls G h2) fun u hu => ?_
                cases hu
                rw [G.kit (xId_of h2).2.2.2]
                simp
          · split at h <;> first | (cases h; done) | skip
            rename_i h1 h2
            split at h
            · rename_i hl
              cases h
              exact se_isxA G (ih _ _ h1) (compX_star h1) hng.1.2 h2 hl
            · cases h
          · cases h
        · cases h
    · cases h
/-- a suite's statement -/
theorem sx_S (G : GH gs N sc X Y A a oe c d) : ∀ (n : Nat) (st : Stmt) (b : S), compXS N gs sc n st = some b → PS X st (TrS (call T k) Y b)
  | 0, st, b, h => by simp [compXS] at h
  | n + 1, st, b, h => by
    have hC := call_mono T k
    have ih := sx_S G n
    unfold compXS at h
    split at h
    · cases h
      refine PS.imp L2.ps_pass fun D σ H q => ?_
      obtain ⟨st, Hs, ok, w⟩ := q
      simp only [wpS] at w
      exact w σ H Hs ok Fr.refl
    · simp only [Option.map_eq_some_iff] at h; obtain ⟨x, hx, rfl⟩ := h
      refine PS.imp (L2.ps_ret (sx_E (T := T) (k := k) G _ _ _ hx).pe) fun D σ H q => ?_
      obtain ⟨st, Hs, ok, w⟩ := q
      simp only [wpS] at w
      exact bindE hC ok w fun r s1 v H1 Hs1 w ok1 f1 r1 n1 => w σ v H1 Hs1 ok1 f1 r1 n1
    · split at h
      · rename_i h1 h2 h3
        cases h
        refine PS.imp (L2.ps_if (sx_E (T := T) (k := k) G _ _ _ h1).pt (sss ih h2) (sss ih h3)) fun D σ H q => ?_
        obtain ⟨st, Hs, ok, w⟩ := q
        simp only [wpS] at w
        refine bindT hC ok w fun c s1 H1 Hs1 w ok1 f1 => ?_
        cases c with
        | true => exact goS hC ok1 f1 w
        | false => exact goS hC ok1 f1 w
      · cases h
    · split at h
      · cases h
      · rename_i hl
        simp only [Bool.or_eq_true, Bool.not_eq_true', not_or, Bool.not_eq_false] at hl
        split at h
        · rename_i h1 h2
          cases h
          exact PS.imp (L2.ps_set (by rw [G.gh.eqN]; exact G.gh.nd) (by rw [G.gh.eqN]; exact ixOf_at h1) (by rw [G.gh.eqS]; exact loc_of hl.1) (sx_E (T := T) (k := k) G _ _ _ h2).pe (plain_sw hl.2 _ _ _) (.inl (G.fn _))) fun D σ H q => asg_nm q
        · cases h
    · cases h
end
end Itp

/-! Exc4: the statement try. -/
namespace Itp
variable [KF]
open PySem PySem.Spec PyProof.Rows
open L2 (V Hp HO upd upd_same upd_ne ne_of ne_of_none Same Cx RelV EP VK TS PE PS PSs Gl Vis Loc Ends Zc Takes)
section
variable {T : Tab} {k : Nat} {gs : Gs} {N : List Str} {sc : Scope} {X : Cx} {Y : XP}
/-- an exception as it stands at its clauses: its dict, the heap with it -/
def XSt (c : Nat) (ds : List D) (H' : Hp) (d : Option Addr) (H2 : Hp) : Prop := match ds with
  | [] => d = none ∧ H2 = H'
  | _ :: _ => ∃ dd, d = some dd ∧ H' dd = none ∧ H2 = upd H' dd (.xd (xFs c ds))
theorem xst_ok {c : Nat} {ds : List D} {H' H2 Hs' : Hp} {d : Option Addr} {σ : L2.St} {st : St} (x : XSt c ds H' d H2) (k : Ok σ st Hs' H') (s1 : ds.all D.isScal = true) (s2 : ds.length = (xFl c).length) :
    ∃ Hs2, Ok σ st Hs2 H2 ∧ Fr σ st Hs' H' σ st Hs2 H2 ∧ (∀ a, Sh Hs2 (.xcp a d c ds) (.ref a)) ∧ ∃ d0, xdd ds d0 = d := by
  cases ds with
  | nil =>
    obtain ⟨rfl, rfl⟩ := x
    exact ⟨Hs', k, Fr.refl, fun a => ⟨rfl, s1, s2, fun d e => by cases e⟩, 0, rfl⟩
  | cons d0 ds =>
    obtain ⟨dd, rfl, n, rfl⟩ := x
    exact ⟨_, k.layS n, Fr.layS k n, fun a => ⟨rfl, s1, s2, fun d e => by cases e; exact upd_same⟩, dd, rfl⟩
theorem drop_ok {σ : L2.St} {st : St} {Hs H : Hp} {i : Nat} {x : D} (k : Ok σ st Hs H) (e : st[i]? = some (some (.d x))) : Ok (σ.set i none) (st.set i none) Hs H := by
  refine ⟨by simpa using k.len, k.sub, fun j o q => ?_, fun j j' p xs o a q1 q2 hh q3 q4 => ?_, fun a ⟨j, M, L, n, y, q1, q2⟩ ⟨j', o, q3, hh, q4⟩ => ?_, fun j j' M M' L L' q1 q2 => ?_⟩
  · rcases set_cases q with ⟨_, z⟩ | ⟨ne, q⟩
    · cases z
    · obtain ⟨v, e2, r⟩ := k.rep j o q
      exact ⟨v, by rw [List.getElem?_set_ne (Ne.symm ne)]; exact e2, r⟩
  · rcases set_cases q1 with ⟨_, z⟩ | ⟨n1, q1⟩
    · cases z
    · rcases set_cases q2 with ⟨_, z⟩ | ⟨n2, q2⟩
      · cases z
      · rw [List.getElem?_set_ne (Ne.symm n1)] at q3
        rw [List.getElem?_set_ne (Ne.symm n2)] at q4
        exact k.inj j j' p xs o a q1 q2 hh q3 q4
  · rcases set_cases q1 with ⟨_, z⟩ | ⟨n1, q1⟩
    · cases z
    · rcases set_cases q3 with ⟨_, z⟩ | ⟨n2, q3⟩
      · cases z
      · rw [List.getElem?_set_ne (Ne.symm n2)] at q4
        exact k.apt a ⟨j, M, L, n, y, q1, q2⟩ ⟨j', o, q3, hh, q4⟩
  · rcases set_cases q1 with ⟨_, z⟩ | ⟨n1, q1⟩
    · cases z
    · rcases set_cases q2 with ⟨_, z⟩ | ⟨n2, q2⟩
      · cases z
      · exact k.one j j' M M' L L' q1 q2
theorem drop_fr {σ0 σ : L2.St} {st0 st : St} {Hs0 H0 Hs H : Hp} {i : Nat} {x : D} (f : Fr σ0 st0 Hs0 H0 σ st Hs H) (e : st[i]? = some (some (.d x))) (n : ∀ o, st0[i]? ≠ some (some o)) : Fr σ0 st0 Hs0 H0 (σ.set i none) (st.set i none) Hs H := by
  have ne_of_k : ∀ {j p xs}, (st.set i none)[j]? = some (some (.k p xs)) → j ≠ i ∧ st[j]? = some (some (.k p xs)) := fun {j p xs} q => by
    rcases set_cases q with ⟨_, z⟩ | ⟨ne, q⟩
    · cases z
    · exact ⟨ne, q⟩
  refine ⟨f.sub, f.keep, f.dom, fun a z => ?_, f.shr, fun j p xs q => ?_, fun j xs q => ?_, fun j xs q => ?_, fun j o q => ?_, by simpa using f.sz, fun j M L q => ?_, fun j M L q => ?_⟩
  · rcases z with ⟨j, p, xs, q1, q2⟩ | ⟨j, M, L, m, y, q1, q2⟩
    · rcases set_cases q1 with ⟨_, z⟩ | ⟨ne, q1⟩
      · cases z
      · rw [List.getElem?_set_ne (Ne.symm ne)] at q2
        exact f.own a (.inl ⟨j, p, xs, q1, q2⟩)
    · rcases set_cases q1 with ⟨_, z⟩ | ⟨ne, q1⟩
      · cases z
      · exact f.own a (.inr ⟨j, M, L, m, y, q1, q2⟩)
  · obtain ⟨ne, q⟩ := ne_of_k q
    obtain ⟨a, b⟩ := f.kk j p xs q
    exact ⟨a, by rw [List.getElem?_set_ne (Ne.symm ne)]; exact b⟩
  · have ne : j ≠ i := fun z => by subst z; exact n _ q
    obtain ⟨a, b⟩ := f.kp j xs q
    exact ⟨by rw [List.getElem?_set_ne (Ne.symm ne)]; exact a, by rw [List.getElem?_set_ne (Ne.symm ne)]; exact b⟩
  · have ne : j ≠ i := fun z => by subst z; exact n _ q
    obtain ⟨ys, a, b⟩ := f.lp j xs q
    exact ⟨ys, by rw [List.getElem?_set_ne (Ne.symm ne)]; exact a, by rw [List.getElem?_set_ne (Ne.symm ne)]; exact b⟩
  · have ne : j ≠ i := fun z => by subst z; exact n _ q
    obtain ⟨o', a⟩ := f.bd j o q
    exact ⟨o', by rw [List.getElem?_set_ne (Ne.symm ne)]; exact a⟩
  · have ne : j ≠ i := fun z => by subst z; exact n _ q
    obtain ⟨M', a, b⟩ := f.hp j M L q
    exact ⟨M', by rw [List.getElem?_set_ne (Ne.symm ne)]; exact a, b⟩
  · rcases set_cases q with ⟨_, z⟩ | ⟨ne, q⟩
    · cases z
    · exact f.hq j M L q
/-- what a clause's suite is read by -/
def YH (Y : XP) (a : Addr) (c : Nat) (d : Option Addr) : XP := ⟨fun _ _ _ _ => True, Y.mg, some (a, c, d), Y.xrs⟩
def tSu (T : Tab) (k : Nat) (Z : Addr → Nat → Option Addr → XP) (A : Nat → Addr) (xrs : List Nat) (b : S) : Addr → Value → Option Addr → TS := fun a cls d D σ H => ∃ c, cls = .ref (A c) ∧ c ∈ xrs ∧ TrS (call T k) (Z a c d) b D σ H
theorem su_ok (g : GS T k gs N sc X Y) {A : Nat → Addr} (hA : ∀ c ∈ gs.xcs, XcOk X.K X.mg gs.xcs A c) (hR : ∀ c ∈ gs.xrs, c ∈ gs.xcs ∧ XmOk X.K c (A c)) {n : Nat} {ss : List Stmt} {b : S} (h : compSs (compXS N gs sc n) ss = some b) {Z : Addr → Nat → Option Addr → XP} (hZ : ∀ a c d, (Z a c d).cur = some (a, c, d) ∨ (Z a c d).cur = none)
    (a : Addr) (oe : Obj) (cls : Value) (d : Option Addr) (pn : List (Addr × Obj)) (hz : Zc cls d oe) (hf : ∃ vs, oe.data = .fields vs) : PSs (X.suite a ((a, oe) :: pn)) ss (tSu T k Z A gs.xrs b a cls d) := by
  refine ⟨fun pins s σ H D I q => ?_⟩
  obtain ⟨c, rfl, hc, q⟩ := q
  obtain ⟨h1, h2⟩ := hR c hc
  have G : GH gs N sc (X.suite a ((a, oe) :: pn)) (Z a c d) A a oe c d :=
    ⟨⟨g.gd.eqN, g.gd.nd, g.gd.eqS, g.gd.blt, (show X.A.units + 100 < cLine from room_cu g.gd.room)⟩, g.fn, List.mem_cons_self, hz, hf, hZ a c d, hA, h1, h2, g.mgV⟩
  exact (sss (sx_S G n) h).run pins s σ H D I q
/-- the clauses -/
theorem hd_ok (g : GS T k gs N sc X Y) {A : Nat → Addr} (hA : ∀ c ∈ gs.xcs, XcOk X.K X.mg gs.xcs A c) (hR : ∀ c ∈ gs.xrs, c ∈ gs.xcs ∧ XmOk X.K c (A c)) {n : Nat} : ∀ {hds : List ExceptHandler} {h : S}, compH N gs sc n hds = some h →
    ∃ l, HdX X hds l ∧ ∀ (E : Ends) (σ0 : L2.St) (st0 : St) (Hs0 H0 : Hp) (c : Nat) (ds : List D) (s1 : St) (σ' : L2.St) (H' Hs' H2 : Hp) (d : Option Addr), wpS (call T k) h { EnOf Y E σ0 st0 Hs0 H0 with hx := some (c, ds) } s1 →
      Ok σ' s1 Hs' H' → Fr σ0 st0 Hs0 H0 σ' s1 Hs' H' → c ∈ gs.xrs → ds.all Itp.D.isScal = true → ds.length = (xFl c).length → XSt c ds H' d H2 → wMix X.K Y.W E l (.ref (A c)) d σ' H2
  | [], h, e => by
    simp only [compH, Option.some.injEq] at e
    subst e
    refine ⟨[], .nil, fun D σ0 st0 Hs0 H0 c ds s1 σ' H' Hs' H2 d w ok f hc e1 e2 x => ?_⟩
    simp only [wpS] at w
    have q := w σ' H' Hs' ok f (by rw [← g.gd.exr]; exact hc) e1 e2 (.ref (A c)) (by
      obtain ⟨nm, a1, a2⟩ := (hA c (hR c hc).1).mg
      exact ⟨nm, A c, a1, by rw [← g.gd.emg]; exact a2, rfl⟩)
    cases ds with
    | nil => obtain ⟨rfl, rfl⟩ := x; exact q
    | cons d0 ds => obtain ⟨dd, rfl, nn, rfl⟩ := x; exact q dd nn
  | hd :: hds, h, e => by
    have hC := call_mono T k
    unfold compH at e
    split at e
    · rename_i z; cases z
    · rename_i x np nm b0 b pos r z
      cases z
      split at e
      · rename_i ccl sb hr h1 h2 h3
        obtain ⟨l, hl, go⟩ := hd_ok g hA hR h3
        obtain ⟨n1, n2, n3, n4⟩ := xId_of h1
        obtain ⟨x', e1, mgx⟩ := (hA ccl n4).mg
        rw [n3] at e1
        cases e1
        have hnames : L2.Names X x (.ref (A ccl)) := ⟨g.gd.gl n2, (nameOk_of n1).1, .inl mgx⟩
        have exm : ∀ {c}, c ∈ gs.xrs → PySem.W.exmOne X.K (.ref (A c)) (.ref (A ccl)) = some (xsub c ccl) := fun {c} hc =>
          PySem.W.exm_ref (hA ccl n4).sb (hA ccl n4).hd (hA ccl n4).ty ((hA c (hR c hc).1).su ccl n4)
        have anyc : ∀ c, [ccl].any (xsub c) = xsub c ccl := fun c => by simp
        cases nm with
        | none =>
          cases e
          refine ⟨(.ref (A ccl), none, tSu T k (fun _ _ _ => ⟨fun _ _ _ _ => True, Y.mg, none, Y.xrs⟩) A gs.xrs sb) :: l, .plain hnames (su_ok (k := k) g hA hR h2 fun _ _ _ => .inr rfl) hl, fun E σ0 st0 Hs0 H0 c ds s1 σ' H' Hs' H2 d w ok f hc e1 e2 xs => ?_⟩
          simp only [wpS, anyc] at w
          refine ⟨xsub c ccl, exm hc, fun ht a ha => ?_, fun hf => ?_⟩
          · rw [if_pos ht] at w
            obtain ⟨Hs2, ok2, f2, sh, _⟩ := xst_ok xs ok e1 e2
            refine ⟨c, rfl, hc, s1, Hs2, ok2, ?_⟩
            refine wpS_mono hC _ _ _ _ ?_ w
            have f3 := f.trans f2
            exact ⟨fun s q σ3 H3 Hs3 a b => q σ3 H3 Hs3 a (f3.trans b), fun r s q σ3 v H3 Hs3 a b c e => q σ3 v H3 Hs3 a (f3.trans b) c (fresh_back e f3), fun s q σ3 H3 Hs3 a b => q σ3 H3 Hs3 a (f3.trans b), fun s q σ3 H3 Hs3 a b => q σ3 H3 Hs3 a (f3.trans b), fun _ _ _ q => q.elim, rfl, rfl⟩
          · rw [if_neg (by rw [hf]; exact Bool.false_ne_true)] at w
            exact go E σ0 st0 Hs0 H0 c ds s1 σ' H' Hs' H2 d w ok f hc e1 e2 xs
        | some y =>
          simp only at e
          split at e
          · rename_i hy
            simp only [Option.map_eq_some_iff] at e
            obtain ⟨i, hi, rfl⟩ := e
            have hyl : sc.names.lookup y = some .local := by simpa using hy
            refine ⟨(.ref (A ccl), some i, tSu T k (YH Y) A gs.xrs sb) :: l, .named hnames (g.at hi) (by show List.lookup y X.env.scope.names = _; rw [g.gd.eqS]; exact hyl) (su_ok (k := k) g hA hR h2 fun _ _ _ => .inl rfl) hl, fun E σ0 st0 Hs0 H0 c ds s1 σ' H' Hs' H2 d w ok f hc e1 e2 xs => ?_⟩
            simp only [wpS, anyc] at w
            refine ⟨xsub c ccl, exm hc, fun ht a ha => ?_, fun hf => ?_⟩
            · rw [if_pos ht] at w
              obtain ⟨Hs2, ok2, f2, sh, d0, ed⟩ := xst_ok xs ok e1 e2
              obtain ⟨en, w⟩ := putN_ex (w a d0)
              rw [ed] at w
              have f3 := f.trans f2
              have free : ∀ o, st0[i]? ≠ some (some o) := fun o z => by
                obtain ⟨o', z'⟩ := f.bd i o z
                rw [en] at z'; cases z'
              obtain ⟨ok3, f4, _⟩ := put_ok (v := .ref a) (o := .d (.xcp a d c ds)) (i := i) (st1 := s1.set i (some (.d (.xcp a d c ds)))) ok2 f3 (sh a) (fun a ha => by simp [tmp] at ha) (by unfold put; rw [en])
              refine ⟨c, rfl, hc, _, Hs2, ok3, ?_⟩
              refine wpS_mono hC _ _ _ _ ?_ w
              have out : ∀ {P : L2.St → Hp → Prop} {s : St}, dropN i s (fun st' => ∀ σ' H' Hs', Ok σ' st' Hs' H' → Fr σ0 st0 Hs0 H0 σ' st' Hs' H' → P σ' H') → ∀ σ3 H3 Hs3, Ok σ3 s Hs3 H3 → Fr (σ'.set i (some (.ref a))) (s1.set i (some (.d (.xcp a d c ds)))) Hs2 H2 σ3 s Hs3 H3 → P (σ3.set i none) H3 := by
                intro P s q σ3 H3 Hs3 k3 b
                unfold dropN at q
                split at q
                · rename_i x ex
                  rw [setK_eq] at q
                  exact q _ _ _ (drop_ok k3 ex) (drop_fr (f4.trans b) ex free)
                · exact q.elim
              exact ⟨fun s q σ3 H3 Hs3 k3 b => out q σ3 H3 Hs3 k3 b, fun r s q σ3 v H3 Hs3 a b c e => q σ3 v H3 Hs3 a (f4.trans b) c (fresh_back e f4), fun s q σ3 H3 Hs3 k3 b => out q σ3 H3 Hs3 k3 b, fun s q σ3 H3 Hs3 k3 b => out q σ3 H3 Hs3 k3 b, fun _ _ _ q => q.elim, rfl, rfl⟩
            · rw [if_neg (by rw [hf]; exact Bool.false_ne_true)] at w
              exact go E σ0 st0 Hs0 H0 c ds s1 σ' H' Hs' H2 d w ok f hc e1 e2 xs
          · cases e
      · cases e
    · cases e
/-- the context of a try's body -/
theorem GS.tr (g : GS T k gs N sc X Y) {W : L2.WX} {pn : List (Addr × Obj)} {xe : Value → Shared → Prop} (tk : Takes (X.tr pn xe) W) (ps : PassesOwn (model X.prog X.w) X.A X.env xe) : GS T k (gs.to true) N sc (X.tr pn xe) ⟨W, Y.mg, none, Y.xrs⟩ :=
  ⟨⟨g.gd.eqN, g.gd.nd, g.gd.eqS, g.gd.calm, g.gd.kk, g.gd.room, g.gd.gd, g.gd.blt, g.gd.cst, g.gd.tab, g.gd.emg, g.gd.exr, fun _ => tk, g.gd.rtab, g.gd.xcls, g.gd.htab, g.gd.hxtab⟩, g.fn, ps, g.kf, tk, g.stk, g.frm, rfl, g.mgV⟩
theorem ss_try (g : GS T k gs N sc X Y) {n : Nat} {b : List Stmt} {h0 : ExceptHandler} {hs : List ExceptHandler} {e : List Stmt} {pos : Pos} {x y z : S}
    (hb : ∀ (X : Cx) (Y : XP), GS T k (gs.to true) N sc X Y → PSs X b (TrS (call T k) Y x)) (hh : compH N gs sc n (h0 :: hs) = some y) (he : PSs X e (TrS (call T k) Y z)) : PS X (.Try b (h0 :: hs) e [] pos) (TrS (call T k) Y (.try_ x y z)) := by
  have hC := call_mono T k
  obtain ⟨A, hA, hR⟩ := g.gd.xcls
  obtain ⟨l, hl, go⟩ := hd_ok g hA hR hh
  refine PS.imp (ps_tryX (tb := fun W => TrS (call T k) ⟨W, Y.mg, none, Y.xrs⟩ x) g.stk g.frm g.nd g.tk (fun W pn xe tk ps => hb _ _ (g.tr tk ps)) hl he) fun E σ H q => ?_
  obtain ⟨st, Hs, ok, w⟩ := q
  simp only [wpS] at w
  refine ⟨st, Hs, ok, wpS_mono hC _ _ _ _ ?_ w⟩
  refine ⟨fun s q σ3 H3 Hs3 a b => goS hC a b q, fun r s q => q, fun s q => q, fun s q => q, fun c ds s q σ3 H3 Hs3 a b hc e1 e2 cls hcls => ?_, g.cur, rfl⟩
  have hc' : c ∈ gs.xrs := by rw [g.gd.exr]; exact hc
  have ecls : cls = .ref (A c) := by
    obtain ⟨n1, C1, a1, a2, rfl⟩ := hcls
    obtain ⟨n2, b1, b2⟩ := (hA c (hR c hc').1).mg
    rw [a1] at b1
    cases b1
    have a2 : Y.mg n1 = some (.ref C1) := a2
    rw [← g.gd.emg, b2] at a2
    cases a2
    rfl
  subst ecls
  cases ds with
  | nil => exact go E σ st Hs H c [] s σ3 H3 Hs3 H3 none q a b hc' e1 e2 ⟨rfl, rfl⟩
  | cons d0 ds => exact fun dd nn => go E σ st Hs H c (d0 :: ds) s σ3 H3 Hs3 _ (some dd) q a b hc' e1 e2 ⟨dd, rfl, nn, rfl⟩
end
end Itp

namespace Itp
variable [KF]
open PySem PySem.Spec PyProof.Rows
open L2 (V Hp HO upd upd_same upd_ne ne_of ne_of_none Same Cx Inv OpR CallR MtR IxR SlR PSet TruR Room RelV EP VK SqL SqT Dp DpAll It TI TE TA TT TG TGs TS TO PI PE PT PW PA PG PGs PS PSs PO PTs PIE thn Turn FpOk Itl Itt Its Itr Itc Itv Ite Itz Gl Vis Loc Sp FnOk Binds Ends)
section
variable {T : Tab} {k : Nat} {gs : Gs} {N : List Str} {sc : Scope} {X : Cx} {Y : XP}
theorem ss_for (g : GS T k gs N sc X Y) {n : Nat} {tg it : Expr} {b : List Stmt} {pos : Pos} {s : Src} {as : E} {t : Tg} {y : S} (h1 : compI (compE N gs n sc) sc gs (isTup tg) it = some (s, as)) (h2 : compTg N sc 8 tg = some t) (hb : PSs X b (TrS (call T k) Y y)) :
    PS X (.For tg it b [] pos) (TrS (call T k) Y (.for_ t s as y)) := by
  have hC := call_mono T k
  have pg := pg_ok g.gd (fun x hx => ⟨hx, .inl (g.fn x)⟩) 8 _ _ h2
  refine PS.imp (L2.ps_for g.pass g.gd.calm (snd_I g.gd (snd_E n gs sc X Y g.gd) h1) pg hb (fun x => foldSet_of (compI_set compE_set0 h1) _ x)) fun EE σ H q => ?_
  obtain ⟨st, Hs, ok, w⟩ := q
  simp only [wpS] at w
  refine ⟨st, Hs, ok, wpA_monoX hC (EnOf.le Fr.refl) w fun rs s1 w vs H1 Hs1 ok1 f1 r1 n1 => ?_⟩
  obtain ⟨ds, ev, w⟩ := w
  have nf := items_frz w
  refine ⟨ds, ev, items_mono (fun xs w J wl => ?_) w⟩
  have okL := ok1.lk r1
  have src : ∀ a, V.ref a ∈ vs → ¬ Own σ (lk rs s1) a := fun a ha => src_free ok1 r1 ev nf ha
  have ownL : ∀ a, Own σ (lk rs s1) a → Own σ s1 a := fun a z => lk_own z
  -- behind the loop
  have out : ∀ {s' : St} {σ' : L2.St} {Hs' H' : Hp}, Ok σ' s' Hs' H' → Fr σ (lk rs s1) Hs1 H1 σ' s' Hs' H' → Ok σ' (ulk rs s1 s') Hs' H' ∧ Fr σ st Hs H σ' (ulk rs s1 s') Hs' H' := by
    intro s' σ' Hs' H' k' f'
    obtain ⟨a, b⟩ := ulk_ok ok1 f' k'
    exact ⟨a, f1.trans b⟩
  let F : List D → St → Prop := fun xs s => forL t (fun D s => wpS (call T k) y D s) (ulk rs s1) (EnOf Y EE σ st Hs H) xs s
  refine ⟨fun i m σ' H' => m = xs.length - i ∧ i ≤ xs.length ∧ ∃ s' Hs', Ok σ' s' Hs' H' ∧ Fr σ (lk rs s1) Hs1 H1 σ' s' Hs' H' ∧ F (xs.drop i) s', ⟨xs.length, by simp, Nat.zero_le _, _, Hs1, okL, Fr.refl, w⟩, ?_⟩
  rintro i m σ' H' ⟨rfl, hi, s', Hs', k', f', w⟩
  have held : Held vs H1 H' := fun a o ha e => f'.keep a o e (src a ha)
  by_cases hlt : i < xs.length
  · refine .inr ⟨wl.goes i H' hlt held, fun σ' H' => ∃ s' Hs', Ok σ' s' Hs' H' ∧ Fr σ (lk rs s1) Hs1 H1 σ' s' Hs' H' ∧ F (xs.drop (i + 1)) s', fun σ'' H'' ⟨s'', Hs'', a, b, c⟩ => ⟨xs.length - (i + 1), by omega, rfl, hlt, s'', Hs'', a, b, c⟩, fun x H2 yl => ?_⟩
    have w' : F (xs[i] :: xs.drop (i + 1)) s' := by rw [← List.drop_eq_getElem_cons hlt]; exact w
    obtain ⟨s2, es, w'⟩ := w'
    obtain ⟨Hs2, sh, k2, f2⟩ := yld_ok wl k' f'.sub held (List.getElem?_eq_getElem hlt) yl
    refine ⟨s', Hs2, xs[i], s2, k2, sh, es, fun σ2 k3 f3 _ => ?_⟩
    have f4 := (f'.trans f2).trans f3
    refine ⟨s2, Hs2, k3, ?_⟩
    refine wpS_mono hC y _ _ _ ?_ w'
    refine ⟨fun s3 q σ3 H3 Hs3 k4 f5 => ⟨s3, Hs3, k4, f4.trans f5, q⟩, fun r s3 q σ3 v H3 Hs3 k4 f5 r5 n5 => ?_, fun s3 q σ3 H3 Hs3 k4 f5 => ?_, fun s3 q σ3 H3 Hs3 k4 f5 => ⟨s3, Hs3, k4, f4.trans f5, q⟩, fun c ds s3 q σ3 H3 Hs3 k4 f5 => ?_, rfl, rfl⟩
    · obtain ⟨a, b⟩ := out k4 (f4.trans f5)
      refine q σ3 v H3 Hs3 a b (RRep.ulk r5 s1) (fresh_back ?_ f1)
      intro a ha
      rcases fresh_back n5 f4 a ha with z | z
      · exact .inl (ownL a z)
      · exact .inr z
    · obtain ⟨a, b⟩ := out k4 (f4.trans f5)
      exact q σ3 H3 Hs3 a b
    · obtain ⟨a, b⟩ := out k4 (f4.trans f5)
      exact q σ3 H3 Hs3 a b
  · have e : i = xs.length := by omega
    subst e
    have w' : F [] s' := by rw [← List.drop_length (l := xs)]; exact w
    obtain ⟨a, b⟩ := out k' f'
    exact .inl ⟨wl.stops H' held, w' σ' H' Hs' a b⟩
theorem ss_while (g : GS T k gs N sc X Y) {n : Nat} {c : Expr} {b : List Stmt} {pos : Pos} {x : E} {y : S} (hc : compE N gs n sc c = some x) (hb : PSs X b (TrS (call T k) Y y)) : PS X (.While c b [] pos) (TrS (call T k) Y (.while_ x y)) := by
  have hC := call_mono T k
  refine PS.imp (L2.ps_while g.pass (snd_E n gs sc X Y g.gd _ _ hc).pt hb) fun D σ H q => ?_
  obtain ⟨st, Hs, ok, w⟩ := q
  simp only [wpS] at w
  obtain ⟨W, ⟨m0, w0⟩, turn⟩ := w
  refine ⟨fun m σ' H' => ∃ s' Hs', Ok σ' s' Hs' H' ∧ Fr σ st Hs H σ' s' Hs' H' ∧ W m s', ⟨m0, st, Hs, ok, Fr.refl, w0⟩, ?_⟩
  rintro m σ' H' ⟨s', Hs', k', f', w⟩
  refine bindT hC k' (turn m s' w) fun bb s1 H1 Hs1 w ok1 f1 => ?_
  cases bb with
  | false => exact w σ' H1 Hs1 ok1 (f'.trans f1)
  | true =>
    refine ⟨fun σ2 H2 => ∃ m', m' < m ∧ ∃ s2 Hs2, Ok σ2 s2 Hs2 H2 ∧ Fr σ st Hs H σ2 s2 Hs2 H2 ∧ W m' s2, fun σ2 H2 q => q, s1, Hs1, ok1, ?_⟩
    have f2 := f'.trans f1
    refine wpS_mono hC y _ _ _ ?_ w
    refine ⟨fun s3 q σ3 H3 Hs3 k4 f5 => ?_, fun r s3 q σ3 v H3 Hs3 k4 f5 r5 n5 => q σ3 v H3 Hs3 k4 (f2.trans f5) r5 (fresh_back n5 f2), fun s3 q σ3 H3 Hs3 k4 f5 => q σ3 H3 Hs3 k4 (f2.trans f5), fun s3 q σ3 H3 Hs3 k4 f5 => ?_, fun c ds s3 q σ3 H3 Hs3 k4 f5 => q σ3 H3 Hs3 k4 (f2.trans f5), rfl, rfl⟩
    · obtain ⟨m', l, q⟩ := q
      exact ⟨m', l, s3, Hs3, k4, f2.trans f5, q⟩
    · obtain ⟨m', l, q⟩ := q
      exact ⟨m', l, s3, Hs3, k4, f2.trans f5, q⟩
/-- stored and shared at once -/
theorem ss_asgd {st : Stmt} {i : Nat} {a : E} (h : PS X st (TrS (call T k) Y (.asg (.nm i) a))) : PS X st (TrS (call T k) Y (.asgd i a)) := by
  have hC := call_mono T k
  refine PS.imp h fun D σ H q => ?_
  obtain ⟨st, Hs, ok, w⟩ := q
  refine ⟨st, Hs, ok, ?_⟩
  simp only [wpS] at w ⊢
  refine wpE_mono hC w fun r s1 w => ?_
  obtain ⟨x, s2, s3, e1, e2, q⟩ := w
  cases r with
  | r j => exact ⟨.d x, s2, s3, by simp only [take]; rw [e1], e2, q⟩
  | c i a n =>
    simp only [froz, Option.some.injEq, Prod.mk.injEq] at e1
    obtain ⟨rfl, rfl⟩ := e1
    exact ⟨.d (.ref a), s1, s3, rfl, e2, q⟩
  | v o =>
    cases o with
    | d y =>
      simp only [froz, Option.some.injEq, Prod.mk.injEq] at e1
      obtain ⟨rfl, rfl⟩ := e1
      exact ⟨.d y, s1, s3, rfl, e2, q⟩
    | k p xs => simp [froz] at e1
    | h M L => simp [froz] at e1
    | l p xs =>
      simp only [froz, Option.some.injEq, Prod.mk.injEq] at e1
      obtain ⟨rfl, rfl⟩ := e1
      have e3 : s3 = s1.set i (some (.d (.lst xs))) := by
        unfold put at e2
        split at e2 <;> first | (cases e2; rfl) | cases e2
      have hi : i < s1.length := by
        unfold put at e2
        cases z : s1[i]? with
        | none => rw [z] at e2; cases e2
        | some z' => exact (List.getElem?_eq_some_iff.mp z).1
      refine ⟨.l false xs, s1, s1.set i (some (.l false xs)), rfl, ?_, fun σ' H' Hs' k' f' => ?_⟩
      · unfold put at e2 ⊢
        split at e2 <;> first | rfl | cases e2
      · have q1 : (s1.set i (some (.l false xs)))[i]? = some (some (.l false xs)) := by simp [hi]
        obtain ⟨v, ev, _⟩ := k'.rep i _ q1
        obtain ⟨Hs1, k1, f1, _⟩ := k'.share q1 ev
        rw [List.set_set] at k1 f1
        rw [← e3] at k1 f1
        exact q σ' H' Hs1 k1 (f'.trans f1)
theorem pl_of {e : Expr} (h : isPlainVal e = false → isTup e = true) : isPlainVal e = true ∨ isTup e = true := by
  cases q : isPlainVal e with
  | true => exact .inl rfl
  | false => exact .inr (h q)
/-- o[i] = v of a cell, by values -/
def rSetC : L2.TSet := fun o i v H Q => ∃ Hs dx dk dv, Same Hs H ∧ RV Hs H dx o ∧ RV Hs H dk i ∧ Sh Hs dv v ∧ setC dx dk dv fun y => ∀ a ob, o = .ref a → CellR Hs (upd H a ob) a y → Q (upd H a ob)
theorem setC_R (hr : X.A.units + 100 < cLine) : PSet X rSetC := by
  intro pins s σ H o i v ov iv u Q I ro ri rv h
  obtain ⟨Hs, dx, dk, dv, sub, hx, hk, hv, h⟩ := h
  have viaD : ∀ {z : D} {q : D → Prop}, dPut dx dk dv q → (∀ y, q y → ∀ a ob, o = .ref a → CellR Hs (upd H a ob) a y → Q (upd H a ob)) → wpAny (model X.prog X.w) X.A (setItem ov iv u) (fun _ s' => ∃ H', Inv X pins σ H' s' ∧ Q H') X.xe s := by
    intro _ q h hq
    obtain ⟨a, y, ob, rfl, g, w, c⟩ := dPut_ok sub h hx hk hv
    obtain rfl : ov = Value.ref a := ro
    exact L2.d_setItem (by omega) I g ri rv fun s' I' => ⟨_, I', hq y w a ob rfl (c _ upd_same)⟩
  unfold setC at h
  split at h
  · rename_i xs
    split at h
    · rename_i kk
      obtain ⟨j, e, h⟩ := h
      obtain ⟨a, us, rfl, h1, h2⟩ := hx
      cases (show i = _ from hk)
      exact L2.set_list pins s σ H _ _ v ov iv u Q I ro ri rv ⟨a, us, kk, j, rfl, rfl, h1, by rw [← h2.len]; exact e, h a _ rfl ⟨_, upd_same, h2.set j hv⟩⟩
    · exact h.elim
  · exact viaD (z := .non) h fun y w => w
  · exact viaD (z := .non) h fun y w => w
  · exact h.elim
theorem ss_seth (g : GS T k gs N sc X Y) {n : Nat} {o ie e : Expr} {p pos : Pos} {h : Nat} {x y z : E} (hp : isPlainVal e = true ∨ isTup e = true) (hs : isSlice ie = false) (ho : compE N gs n sc o = some x) (hi : compE N gs n sc ie = some y) (he : compE N gs n sc e = some z) :
    PS X (.Assign [.Subscript o ie p] e pos) (TrS (call T k) Y (.seth h x y z)) := by
  have hC := call_mono T k
  have hsw : swapsWithSole [.Subscript o ie p] e pos.line X.env = pure false := by
    rcases hp with hp | hp
    · exact sole_sw hp _ _ _
    · cases e <;> first | rfl | cases hp
  refine PS.imp (L2.ps_asg (snd_E n gs sc X Y g.gd _ _ he).pe (L2.pg_sub (snd_E n gs sc X Y g.gd _ _ ho).pe (snd_E n gs sc X Y g.gd _ _ hi).pe (setC_R (room_cu g.gd.room)) (by
    intro v
    cases ie <;> first | rfl | cases hs)) hsw sub_st rfl) fun D σ H q => ?_
  obtain ⟨st, Hs, ok, w⟩ := q
  simp only [wpS] at w
  refine bindE hC ok w fun r s1 v H1 Hs1 w ok1 f1 r1 n1 => ?_
  refine bindE hC ok1 w fun ro s2 ov H2 Hs2 w ok2 f2 r2 n2 => ?_
  refine bindE hC ok2 w fun ri s3 iv H3 Hs3 w ok3 f3 r3 n3 => ?_
  obtain ⟨dv, s4, ef, w⟩ := w
  obtain ⟨b, j, er, w2⟩ := isC_ex w
  clear w
  subst er
  obtain ⟨kd, e1, w⟩ := w2
  have dj : ∀ a ∈ tmp r v, a ∉ tmps [ri, .c h b j] [iv, ov] := fun a ha => by
    obtain ⟨⟨us, q⟩, _, q2⟩ := tmp_at (r1.lift f2) ha
    intro z
    rcases n3 a (by simpa [tmps, tmp] using z) with z | z
    · exact q2 z.hel
    · rw [q] at z; cases z
  obtain ⟨Hs4, ok4, f4, sh, ra, _⟩ := froz_ok (rs := [ri, .c h b j]) (ws := [iv, ov]) ok3 ((f1.trans f2).trans f3) ((r1.lift f2).lift f3) (fun a ha => n1 a ha) ef ⟨iv, [ov], rfl, r3, ⟨ov, [], rfl, r2.lift f3, rfl, fun a _ => by simp [tmps]⟩, fun a _ => by simp [tmps, tmp]⟩ dj
  obtain ⟨iv', ws', e5, r4, ⟨ov', ws2, e6, r5, _, _⟩, _⟩ := ra
  cases e5
  cases e6
  obtain ⟨c, dx, e2, w⟩ := cellK_ex w
  obtain ⟨rfl, M, L, x2, g1, g2⟩ := r5
  have eM : M[j]? = some (c, dx) := by simpa only [cellAt, g1] using e2
  rw [g2] at eM; cases eM
  refine ⟨Hs4, _, _, _, ok4.sub, ((ok4.rgn g1).at_ j _ _ g2).2.rv, ok4.view r4 e1, sh, setC_mono (fun y w a ob ea c => ?_) w⟩
  cases ea
  obtain ⟨M4, L4, c4, y4, e7, e8, nl, w⟩ := putC_ex w
  rw [g1] at e7; cases e7
  rw [g2] at e8; cases e8
  obtain ⟨ok5, f5⟩ := ok4.chgC g1 g2 nl c
  exact w σ _ Hs4 ok5 (f4.trans f5)
theorem snd_S : ∀ (n : Nat) (gs : Gs) (X : Cx) (Y : XP), GS T k gs N sc X Y → ∀ (st : Stmt) (b : S), compS N gs sc n st = some b → PS X st (TrS (call T k) Y b)
  | 0, gs, X, Y, g, st, b, h => by simp [compS] at h
  | n + 1, gs, X, Y, g, st, b, h => by
    have hC := call_mono T k
    have ih := snd_S n gs X Y g
    unfold compS at h
    split at h
    case isTrue =>
      split at h
      · split at h
        · cases h
        · rename_i hng
          simp only [Bool.or_eq_true, Bool.and_eq_true, Bool.not_eq_true', not_or, not_and, Bool.not_eq_false, Bool.not_eq_true] at hng
          split at h
          · rename_i h1 h2 h3
            cases h
            exact ss_seth g (pl_of hng.1) hng.2 h1 h2 h3
          · cases h
      · cases h
    rename_i hway
    clear hway
    split at h
    · cases h
      refine PS.imp L2.ps_pass fun D σ H q => ?_
      obtain ⟨st, Hs, ok, w⟩ := q
      simp only [wpS] at w
      exact w σ H Hs ok Fr.refl
    · split at h
      · rename_i hrz
        split at h
        · rename_i x p es pos
          split at h
          · rename_i c a h1 h2
            split at h
            · rename_i hc
              simp only [Bool.and_eq_true, decide_eq_true_eq, List.contains_iff_mem] at hc
              cases h
              exact ss_rse g hrz h1 hc.1 hc.2 h2
            · cases h
          · cases h
        · cases h
      · cases h
        refine PS.imp L2.ps_never fun D σ H q => ?_
        obtain ⟨st, Hs, ok, w⟩ := q
        simp only [wpS] at w
    · split at h
      · cases h
      · split at h
        · rename_i h1 h2 h3
          cases h
          exact ss_try g (fun X Y g => sss (snd_S n _ X Y g) h1) h2 (sss ih h3)
        · cases h
    · cases h
      refine PS.imp L2.ps_break fun D σ H q => ?_
      obtain ⟨st, Hs, ok, w⟩ := q
      simp only [wpS] at w
      exact w σ H Hs ok Fr.refl
    · cases h
      refine PS.imp L2.ps_continue fun D σ H q => ?_
      obtain ⟨st, Hs, ok, w⟩ := q
      simp only [wpS] at w
      exact w σ H Hs ok Fr.refl
    · cases h
      refine PS.imp L2.ps_retN fun D σ H q => ?_
      obtain ⟨st, Hs, ok, w⟩ := q
      simp only [wpS] at w
      exact w σ .non H Hs ok Fr.refl rfl fun a ha => by simp [tmp] at ha
    · simp only [Option.map_eq_some_iff] at h; obtain ⟨x, hx, rfl⟩ := h
      refine PS.imp (L2.ps_ret (snd_E n gs sc X Y g.gd _ _ hx).pe) fun D σ H q => ?_
      obtain ⟨st, Hs, ok, w⟩ := q
      simp only [wpS] at w
      exact bindE hC ok w fun r s1 v H1 Hs1 w ok1 f1 r1 n1 => w σ v H1 Hs1 ok1 f1 r1 n1
    · split at h
      · rename_i hp
        simp only [Option.map_eq_some_iff] at h; obtain ⟨x, hx, rfl⟩ := h
        refine PS.imp (L2.ps_expr (snd_E n gs sc X Y g.gd _ _ hx).pe (plain_sw hp _ _ _)) fun D σ H q => ?_
        obtain ⟨st, Hs, ok, w⟩ := q
        simp only [wpS] at w
        exact bindE hC ok w fun r s1 v H1 Hs1 w ok1 f1 r1 n1 => w σ H1 Hs1 ok1 f1
      · cases h
    · split at h
      · rename_i h1 h2 h3
        cases h
        refine PS.imp (L2.ps_if (snd_E n gs sc X Y g.gd _ _ h1).pt (sss ih h2) (sss ih h3)) fun D σ H q => ?_
        obtain ⟨st, Hs, ok, w⟩ := q
        simp only [wpS] at w
        refine bindT hC ok w fun c s1 H1 Hs1 w ok1 f1 => ?_
        cases c with
        | true => exact goS hC ok1 f1 w
        | false => exact goS hC ok1 f1 w
      · cases h
    · split at h
      · rename_i h1 h2
        cases h
        exact ss_while g h1 (sss ih h2)
      · cases h
    · split at h
      · rename_i h1 h2 h3
        cases h
        exact ss_for g h1 h2 (sss ih h3)
      · cases h
    · split at h
      · cases h
      · rename_i hl
        simp only [Bool.not_eq_true', Bool.not_eq_false] at hl
        split at h
        · rename_i h1 h2
          split at h
          · cases h
            exact ss_asgd (ss_asg g hl h1 h2)
          · cases h
            exact ss_asg g hl h1 h2
        · cases h
    · split at h
      · split at h
        · rename_i hc
          simp only [Bool.and_eq_true, beq_iff_eq, Bool.not_eq_true'] at hc
          obtain ⟨⟨⟨⟨⟨c1, c2⟩, c3⟩, c4⟩, c5⟩, c6⟩ := hc
          split at h
          · rename_i h1 h2 h3 h4
            cases h
            exact ss_par g c1 c2 (by rw [c3]; exact beq_self_eq_true _) c4 c5 c6 h1 h2 h3 h4
          · cases h
        · split at h
          · rename_i hc
            simp only [Bool.or_eq_true, beq_iff_eq] at hc
            split at h
            · rename_i h1 h2
              cases h
              obtain ⟨s1, s2⟩ := tup_star h2
              rcases hc with hc | hc
              · exact ss_tup' g rfl (stores_cell (by rw [g.gd.eqS]; exact hc) s1 s2) h1 h2
              · exact ss_tup' g rfl (stores_fold hc s1 s2) h1 h2
            · cases h
          · cases h
      · split at h
        · cases h
        · rename_i hp
          simp only [Bool.not_eq_true', Bool.not_eq_false] at hp
          split at h
          · rename_i h1 h2
            cases h
            exact ss_tup g hp h1 h2
          · cases h
    · split at h
      · cases h
      · rename_i hc
        simp only [Bool.or_eq_true, Bool.and_eq_true, Bool.not_eq_true', not_or, not_and, Bool.not_eq_true, Bool.not_eq_false, beq_iff_eq] at hc
        obtain ⟨⟨⟨c1, c2⟩, c3⟩, c4⟩ := hc
        split at h
        · rename_i h1 h2 h3
          cases h
          exact ss_set g (pl_of c1) c2 c3 c4 h1 h2 h3
        · cases h
    · split at h
      · cases h
      · rename_i hl
        simp only [Bool.not_eq_true', Bool.not_eq_false] at hl
        split at h
        · rename_i h1 h2
          cases h
          exact ss_aug g hl h1 h2
        · cases h
    · split at h
      · cases h
      · rename_i hc
        simp only [Bool.or_eq_true, Bool.and_eq_true, Bool.not_eq_true', not_or, not_and, Bool.not_eq_true, Bool.not_eq_false, beq_iff_eq] at hc
        split at h
        · rename_i h1 h2 h3
          cases h
          exact ss_augs g hc.1.1 hc.1.2 hc.2 h1 h2 h3
        · cases h
    · cases h
end
end Itp

namespace Itp
variable [KF]
open PySem PySem.Spec PyProof.Rows
open L2 (V Hp HO upd upd_same upd_ne ne_of ne_of_none Same Cx Inv OpR CallR MtR IxR SlR PSet TruR Room RelV EP VK SqL SqT Dp DpAll It TI TE TA TT TG TGs TS TO PI PE PT PW PA PG PGs PS PSs PO PTs PIE thn Turn FpOk Itl Itt Its Itr Itc Itv Ite Itz Gl Vis Loc Sp FnOk Binds Ends)
section
variable {σ σ' : L2.St} {st st' : St} {Hs H Hs' H' : Hp} {vs : List V} {os : List O}
theorem app_cases {α : Type} {l : List (Option α)} {n i : Nat} {x : α} (h : (l ++ List.replicate n none)[i]? = some (some x)) : l[i]? = some (some x) := by
  by_cases hi : i < l.length
  · rw [List.getElem?_append_left hi] at h; exact h
  · rw [List.getElem?_append_right (by omega), List.getElem?_replicate] at h
    split at h <;> cases h
theorem app_at {α : Type} {l : List (Option α)} {n i : Nat} {x : α} (h : l[i]? = some (some x)) : (l ++ List.replicate n none)[i]? = some (some x) := by
  rw [List.getElem?_append_left (List.getElem?_eq_some_iff.mp h).1]; exact h
/-- the state at a def's entry -/
theorem start_ok {n m : Nat} (k : Ok (vs.map some) (os.map some) Hs H) (e : n = m) : Ok (vs.map some ++ List.replicate n none) (os.map some ++ List.replicate m none) Hs H := by
  subst e
  refine ⟨by simp [show os.length = vs.length by simpa using k.len], k.sub, fun i o q => ?_, fun i j p xs o a q1 q2 hh q3 q4 => ?_, fun a ⟨i, M, L, n, x, q1, q2⟩ ⟨j, o, q3, hh, q4⟩ => k.apt a ⟨i, M, L, n, x, app_cases q1, q2⟩ ⟨j, o, app_cases q3, hh, app_cases q4⟩, fun i j M M' L L' q1 q2 => k.one i j M M' L L' (app_cases q1) (app_cases q2)⟩
  · obtain ⟨v, a, b⟩ := k.rep i o (app_cases q)
    exact ⟨v, app_at a, b⟩
  · exact k.inj i j p xs o a (app_cases q1) (app_cases q2) hh (app_cases q3) (app_cases q4)
theorem start_own {n m : Nat} {a : Addr} (h : Own (vs.map some ++ List.replicate n none) (os.map some ++ List.replicate m none) a) : Own (vs.map some) (os.map some) a := by
  rcases h with ⟨i, p, xs, q1, q2⟩ | ⟨i, M, L, n, x, q1, q2, hn⟩
  · exact .inl ⟨i, p, xs, app_cases q1, app_cases q2⟩
  · exact .inr ⟨i, M, L, n, x, app_cases q1, q2, hn⟩
theorem own_start {n m : Nat} {a : Addr} (h : Own (vs.map some) (os.map some) a) : Own (vs.map some ++ List.replicate n none) (os.map some ++ List.replicate m none) a := by
  rcases h with ⟨i, p, xs, q1, q2⟩ | ⟨i, M, L, n, x, q1, q2, hn⟩
  · exact .inl ⟨i, p, xs, app_at q1, app_at q2⟩
  · exact .inr ⟨i, M, L, n, x, app_at q1, q2, hn⟩
/-- what a def hands back -/
theorem leave_post {n m np : Nat} {r : R} {v : V} {o : O} {s2 : St} (k0 : Ok (vs.map some) (os.map some) Hs H) (lo : os.length = np) (lv : vs.length = np) (k' : Ok σ' st' Hs' H') (f : Fr (vs.map some ++ List.replicate n none) (os.map some ++ List.replicate m none) Hs H σ' st' Hs' H')
    (rr : RRep σ' st' Hs' H' v r) (fr : ∀ a ∈ tmp r v, Own (vs.map some ++ List.replicate n none) (os.map some ++ List.replicate m none) a ∨ H a = none) (e : leave r st' = some (o, s2)) : CallPost vs os Hs H o (s2.take np) v H' Hs' := by
  -- the pinned lists
  have pin : ∀ (j : Nat) (xs : List D), os[j]? = some (.l true xs) → j < np ∧ ∃ ys a ws, st'[j]? = some (some (.l true ys)) ∧ vs[j]? = some (.ref a) ∧ σ'[j]? = some (some (.ref a)) ∧ H' a = some (.lst ws) ∧ ShA Hs' ys ws ∧ Hs' a = none := by
    intro j xs q
    have hj : j < np := by rw [← lo]; exact (List.getElem?_eq_some_iff.mp q).1
    obtain ⟨ys, a, b⟩ := f.lp j xs (app_at (by rw [List.getElem?_map, q]; rfl))
    obtain ⟨w, c, a1, ws, rfl, g1, g2, g3⟩ := k'.rep j _ a
    refine ⟨hj, ys, a1, ws, a, ?_, c, g1, g2, g3⟩
    rw [c] at b
    have b2 := app_cases b.symm
    rw [List.getElem?_map] at b2
    cases z : vs[j]? with
    | none => rw [z] at b2; cases b2
    | some u => rw [z] at b2; cases b2; rfl
  have base : ∀ (o : O) (s2 : St), s2.length = st'.length → (∀ (j : Nat) (ys : List D), st'[j]? = some (some (.l true ys)) → s2[j]? = some (some (.l true ys))) → (∀ (j : Nat) (M : List (Addr × D)) (L : List Nat), st'[j]? = some (some (.h M L)) ↔ s2[j]? = some (some (.h M L))) → (match o with
    | .d x => Sh Hs' x v
    | .l _ xs => ∃ a ws, v = .ref a ∧ H' a = some (.lst ws) ∧ ShA Hs' xs ws ∧ Hs' a = none ∧ (Own (vs.map some) (os.map some) a ∨ H a = none) ∧ (∀ (j : Nat) (zs : List D), os[j]? = some (.l true zs) → vs[j]? ≠ some (.ref a)) ∧ ¬ HelH st' a
    | .k _ _ => False
    | .h _ _ => False) → CallPost vs os Hs H o (s2.take np) v H' Hs' := by
    intro o s2 ls keep keepH res
    refine ⟨f.sub, k'.sub, fun a o h n => f.keep a o h fun z => n (start_own z), f.dom, fun a h n q => f.shr a h (fun z => n (start_own z)) q, ?_, fun j xs q => ?_, ?_, fun j M L q => ?_⟩
    rotate_left 2
    · cases o with
      | d x => exact res
      | k p xs => exact res
      | h M L => exact res
      | l p xs =>
        obtain ⟨a, ws, g1, g2, g3, g4, g5, g6, g7⟩ := res
        refine ⟨a, ws, g1, g2, g3, g4, g5, g6, fun j M L q n x w => ?_⟩
        have hj : j < np := by
          have := (List.getElem?_eq_some_iff.mp q).1
          rw [List.length_take] at this
          omega
        rw [List.getElem?_take_of_lt hj] at q
        exact g7 ⟨j, M, L, n, x, (keepH j M L).mpr q, w⟩
    · have hj : j < np := by rw [← lo]; exact (List.getElem?_eq_some_iff.mp q).1
      have q0 : (os.map some)[j]? = some (some (O.h M L)) := by rw [List.getElem?_map, q]; rfl
      obtain ⟨M', a, b⟩ := f.hp j M L (app_at q0)
      refine ⟨M', by rw [List.getElem?_take_of_lt hj]; exact (keepH j M' L).mp a, k'.rgn a, b, fun n c x w ln => ⟨?_, fun i zs z1 z2 => ?_⟩⟩
      · have hn : n ∉ L := fun hn => by
          have := k0.inL q0 n hn
          omega
        rcases f.own c (.inr ⟨j, M', L, n, x, a, w, hn⟩) with z | z
        · exact .inl (start_own z)
        · exact .inr z
      · obtain ⟨_, ys, a', ws', b1, b2, b3, _⟩ := pin i zs z1
        rw [z2] at b2; cases b2
        exact k'.apt c ⟨j, M', L, n, x, a, w⟩ ⟨i, _, b1, rfl, b3⟩
    · rw [List.length_take, ls, f.sz]
      simp
      omega
    · obtain ⟨hj, ys, a, ws, b1, b2, _, b3, b4, b5⟩ := pin j xs q
      exact ⟨ys, a, ws, by rw [List.getElem?_take_of_lt hj]; exact keep j ys b1, b2, b3, b4, b5⟩
  cases r with
  | v o' =>
    cases o' with
    | d x =>
      simp only [leave, take, Option.some.injEq, Prod.mk.injEq] at e
      obtain ⟨rfl, rfl⟩ := e
      exact base _ _ rfl (fun _ _ q => q) (fun _ _ _ => Iff.rfl) rr
    | k p xs => simp [leave, take] at e
    | h M L => simp [leave, take] at e
    | l p xs =>
      simp only [leave, take, Option.some.injEq, Prod.mk.injEq] at e
      obtain ⟨rfl, rfl⟩ := e
      obtain ⟨a, ws, rfl, g1, g2, g3, g4⟩ := rr
      refine base _ _ rfl (fun _ _ q => q) (fun _ _ _ => Iff.rfl) ⟨a, ws, rfl, g1, g2, g3, ?_, fun j zs q z => ?_, fun z => g4 (.inr z)⟩
      · rcases fr a (by simp [tmp]) with z | z
        · exact .inl (start_own z)
        · exact .inr z
      · obtain ⟨_, ys, a', ws', b1, b2, b3, _⟩ := pin j zs q
        rw [z] at b2; cases b2
        exact g4 (.inl ⟨j, _, b1, rfl, b3⟩)
  | c i a n =>
    simp only [leave, Option.some.injEq, Prod.mk.injEq] at e
    obtain ⟨rfl, rfl⟩ := e
    exact base _ _ rfl (fun _ _ q => q) (fun _ _ _ => Iff.rfl) rr.1
  | r i =>
    obtain ⟨e1, o', q⟩ := rr
    simp only [leave, q] at e
    cases o' with
    | d x =>
      simp only [Option.some.injEq, Prod.mk.injEq] at e
      obtain ⟨rfl, rfl⟩ := e
      obtain ⟨w, e2, rp⟩ := k'.rep i _ q
      rw [e1] at e2; cases e2
      exact base _ _ rfl (fun _ _ q => q) (fun _ _ _ => Iff.rfl) rp
    | k p xs => simp at e
    | h M L => simp at e
    | l p xs =>
      cases p with
      | true => simp at e
      | false =>
        simp only [Option.some.injEq, Prod.mk.injEq] at e
        obtain ⟨rfl, rfl⟩ := e
        obtain ⟨w, e2, a, ws, rfl, g1, g2, g3⟩ := k'.rep i _ q
        rw [e1] at e2; cases e2
        refine base _ _ (by simp) (fun j ys z => ?_) (fun j M L => ?_) ⟨a, ws, rfl, g1, g2, g3, ?_, fun j zs z1 z2 => ?_, fun z => k'.apt a z ⟨i, _, q, rfl, e1⟩⟩
        · rw [List.getElem?_set_ne (fun h => by subst h; rw [q] at z; cases z)]; exact z
        · by_cases hj : j = i
          · subst hj
            rw [q, List.getElem?_set_self (List.getElem?_eq_some_iff.mp q).1]
            simp
          · rw [List.getElem?_set_ne (Ne.symm hj)]
        · rcases f.own a (.inl ⟨i, false, xs, q, e1⟩) with z | z
          · exact .inl (start_own z)
          · exact .inr z
        · obtain ⟨_, ys, a', ws', b1, b2, b3, _⟩ := pin j zs z1
          rw [z2] at b2; cases b2
          have := k'.inj i j _ _ _ a q b1 rfl e1 b3
          subst this
          rw [q] at b1; cases b1
end
/-! ### a def with a region of its own, with one lent to it -/
section
variable {X : Cx} {pins : List (Addr × Obj)} {σ : L2.St} {H : Hp} {s : Shared}
theorem inv_ghost (I : Inv X pins σ H s) {h : Nat} (hv : ∀ x, X.N[h]? = some x → ¬ Vis X.env.scope x) (v : V) : Inv X pins (σ.set h (some v)) H s :=
  { I with
    len := by simpa using I.len
    loc := by
      obtain ⟨m, h1, h2⟩ := I.loc
      refine ⟨m, h1, fun i x u e1 e2 e3 => ?_⟩
      rcases set_cases e2 with ⟨rfl, _⟩ | ⟨_, e2⟩
      · exact absurd e3 (hv x e1)
      · exact h2 i x u e1 e2 e3 }
theorem pss_ghost {b : List Stmt} {t : TS} (p : PSs X b t) {h : Nat} (hv : ∀ x, X.N[h]? = some x → ¬ Vis X.env.scope x) (v : V) : PSs X b (fun D σ H => t D (σ.set h (some v)) H) :=
  ⟨fun pins s σ H D I q => p.run pins s (σ.set h (some v)) H D (inv_ghost I hv v) q⟩
end
section
variable {σ σ' : L2.St} {st st' : St} {Hs H Hs' H' : Hp} {C : Ct} {Y : XP} {E0 : Ends}
theorem putN_ex' {h : Nat} {o : O} {s : St} {K : St → Prop} (w : putN h o s K) : s[h]? = some none ∧ K (s.set h (some o)) := putN_ex w
theorem root_ok (hC : CtMono C) {h : Nat} {b : S} (ok : Ok σ st Hs H) (noR : ∀ (j : Nat) (M : List (Addr × D)) (L : List Nat), st[j]? ≠ some (some (O.h M L))) (w : wpS C (.root h b) (EnOf Y E0 σ st Hs H) st) : TrS C Y b E0 (σ.set h (some .non)) H := by
  simp only [wpS] at w
  obtain ⟨e0, w⟩ := putN_ex w
  have hl : h < st.length := (List.getElem?_eq_some_iff.mp e0).1
  have hl2 : h < σ.length := by rw [← ok.len]; exact hl
  have slot : ∀ {i : Nat} {o : O}, (st.set h (some (.h [] [])))[i]? = some (some o) → (∀ M L, o ≠ .h M L) → i ≠ h ∧ st[i]? = some (some o) := fun {i o} q n => by
    rcases set_cases q with ⟨_, z⟩ | ⟨ne, q⟩
    · cases z; exact absurd rfl (n _ _)
    · exact ⟨ne, q⟩
  have reg : ∀ {i : Nat} {M : List (Addr × D)} {L : List Nat}, (st.set h (some (.h [] [])))[i]? = some (some (.h M L)) → i = h ∧ M = [] ∧ L = [] := fun {i M L} q => by
    rcases set_cases q with ⟨e, z⟩ | ⟨ne, q⟩
    · cases z; exact ⟨e, rfl, rfl⟩
    · exact absurd q (noR _ _ _)
  have ok1 : Ok (σ.set h (some .non)) (st.set h (some (.h [] []))) Hs H := by
    refine ⟨by simpa using ok.len, ok.sub, fun i o q => ?_, fun i j p xs o a q1 q2 hh q3 q4 => ?_, fun a ⟨i, M, L, n, x, q1, q2⟩ _ => ?_, fun i j M M' L L' q1 q2 => (reg q1).1.trans (reg q2).1.symm⟩
    · cases o with
      | h M L =>
        obtain ⟨rfl, rfl, rfl⟩ := reg q
        exact ⟨.non, by rw [List.getElem?_set_self hl2], ⟨fun n a x e => by simp at e, fun n m a x y e => by simp at e⟩, fun n hn => by cases hn⟩
      | d y =>
        obtain ⟨ne, q⟩ := slot q fun _ _ z => by cases z
        obtain ⟨v, e, r⟩ := ok.rep i _ q
        exact ⟨v, by rw [List.getElem?_set_ne (Ne.symm ne)]; exact e, r⟩
      | l p xs =>
        obtain ⟨ne, q⟩ := slot q fun _ _ z => by cases z
        obtain ⟨v, e, r⟩ := ok.rep i _ q
        exact ⟨v, by rw [List.getElem?_set_ne (Ne.symm ne)]; exact e, r⟩
      | k p xs =>
        obtain ⟨ne, q⟩ := slot q fun _ _ z => by cases z
        obtain ⟨v, e, r⟩ := ok.rep i _ q
        exact ⟨v, by rw [List.getElem?_set_ne (Ne.symm ne)]; exact e, r⟩
    · obtain ⟨n1, q1⟩ := slot q1 fun _ _ z => by cases z
      obtain ⟨n2, q2⟩ := slot q2 (held_nh hh)
      rw [List.getElem?_set_ne (Ne.symm n1)] at q3
      rw [List.getElem?_set_ne (Ne.symm n2)] at q4
      exact ok.inj i j p xs o a q1 q2 hh q3 q4
    · obtain ⟨rfl, rfl, rfl⟩ := reg q1
      simp at q2
  have ownB : ∀ a, Own (σ.set h (some .non)) (st.set h (some (.h [] []))) a → Own σ st a := fun a z => by
    rcases z with ⟨i, p, xs, q1, q2⟩ | ⟨i, M, L, n, x, q1, q2, _⟩
    · obtain ⟨n1, q1⟩ := slot q1 fun _ _ z => by cases z
      rw [List.getElem?_set_ne (Ne.symm n1)] at q2
      exact .inl ⟨i, p, xs, q1, q2⟩
    · obtain ⟨rfl, rfl, rfl⟩ := reg q1
      simp at q2
  -- behind the body the region is let go
  have out : ∀ {σ' : L2.St} {s' : St} {Hs' H' : Hp}, Ok σ' s' Hs' H' → Fr (σ.set h (some .non)) (st.set h (some (.h [] []))) Hs H σ' s' Hs' H' → Ok σ' (s'.set h none) Hs' H' ∧ Fr σ st Hs H σ' (s'.set h none) Hs' H' ∧ ∀ v r (K : R → Prop), RRep σ' s' Hs' H' v r → retC h r K → ∃ r', K r' ∧ RRep σ' (s'.set h none) Hs' H' v r' ∧ ∀ a, a ∈ tmp r' v → a ∈ tmp r v := by
    intro σ' s' Hs' H' k' f'
    obtain ⟨M', eh, _⟩ := f'.hp h [] [] (by rw [List.getElem?_set_self hl])
    have sl : ∀ {i : Nat} {o : O}, (s'.set h none)[i]? = some (some o) → i ≠ h ∧ s'[i]? = some (some o) := fun {i o} q => by
      rcases set_cases q with ⟨_, z⟩ | ⟨ne, q⟩
      · cases z
      · exact ⟨ne, q⟩
    have nr : ∀ {i : Nat} {M : List (Addr × D)} {L : List Nat}, (s'.set h none)[i]? = some (some (.h M L)) → False := fun {i M L} q => by
      obtain ⟨ne, q⟩ := sl q
      exact ne (k'.one i h _ _ _ _ q eh)
    refine ⟨⟨by simpa using k'.len, k'.sub, fun i o q => k'.rep i o (sl q).2, fun i j p xs o a q1 q2 hh q3 q4 => k'.inj i j p xs o a (sl q1).2 (sl q2).2 hh q3 q4, fun a ⟨i, M, L, n, x, q1, q2⟩ _ => nr q1, fun i j M M' L L' q1 q2 => (nr q1).elim⟩,
      ⟨f'.sub, fun a o e n => f'.keep a o e fun z => n (ownB a z), f'.dom, fun a z => ?_, fun a e n q => f'.shr a e (fun z => n (ownB a z)) q, fun i p xs q => ?_, fun i xs q => ?_, fun i xs q => ?_, fun i o q => ?_, by simpa using f'.sz, fun i M L q => absurd q (noR _ _ _), fun i M L q => (nr q).elim⟩, fun v r K rr rc => ?_⟩
    · rcases z with ⟨i, p, xs, q1, q2⟩ | ⟨i, M, L, n, x, q1, q2, _⟩
      · rcases f'.own a (.inl ⟨i, p, xs, (sl q1).2, q2⟩) with z | z
        · exact .inl (ownB a z)
        · exact .inr z
      · exact (nr q1).elim
    · obtain ⟨ne, q⟩ := sl q
      obtain ⟨a, b⟩ := f'.kk i p xs q
      rw [List.getElem?_set_ne (Ne.symm ne)] at a b
      exact ⟨a, b⟩
    · have ne : i ≠ h := fun z => by subst z; rw [e0] at q; cases q
      obtain ⟨a, b⟩ := f'.kp i xs (by rw [List.getElem?_set_ne (Ne.symm ne)]; exact q)
      rw [List.getElem?_set_ne (Ne.symm ne)] at b
      exact ⟨by rw [List.getElem?_set_ne (Ne.symm ne)]; exact a, b⟩
    · have ne : i ≠ h := fun z => by subst z; rw [e0] at q; cases q
      obtain ⟨ys, a, b⟩ := f'.lp i xs (by rw [List.getElem?_set_ne (Ne.symm ne)]; exact q)
      rw [List.getElem?_set_ne (Ne.symm ne)] at b
      exact ⟨ys, by rw [List.getElem?_set_ne (Ne.symm ne)]; exact a, b⟩
    · have ne : i ≠ h := fun z => by subst z; rw [e0] at q; cases q
      obtain ⟨o', a⟩ := f'.bd i o (by rw [List.getElem?_set_ne (Ne.symm ne)]; exact q)
      exact ⟨o', by rw [List.getElem?_set_ne (Ne.symm ne)]; exact a⟩
    · cases r with
      | c i a n => exact ⟨_, rc, rr.1, fun a ha => by simp [tmp] at ha⟩
      | r i =>
        have ne : i ≠ h := fun z => by
          have := rc.1
          rw [z] at this
          simp [Nat.beq_refl] at this
        obtain ⟨e, o, q⟩ := rr
        exact ⟨_, rc.2, ⟨e, o, by rw [List.getElem?_set_ne (Ne.symm ne)]; exact q⟩, fun a ha => ha⟩
      | v o =>
        refine ⟨_, rc, ?_, fun a ha => ha⟩
        cases o with
        | d y => exact rr
        | k p xs => exact rr
        | h M L => exact rr
        | l p xs =>
          obtain ⟨a, vs, e, h1, h2, h3, h4⟩ := rr
          refine ⟨a, vs, e, h1, h2, h3, fun z => h4 ?_⟩
          rcases z with ⟨i, o, q1, q2, q3⟩ | ⟨i, M, L, n, x, q1, q2⟩
          · exact .inl ⟨i, o, (sl q1).2, q2, q3⟩
          · exact (nr q1).elim
  refine ⟨_, Hs, ok1, wpS_mono hC b _ _ _ ?_ w⟩
  refine ⟨fun s' q σ' H' Hs' k' f' => ?_, fun r s' q σ' v H' Hs' k' f' rr fr => ?_, fun s' q => q.elim, fun s' q => q.elim, fun c ds s' q σ' H' Hs' k' f' => ?_, rfl, rfl⟩
  · obtain ⟨a, b, _⟩ := out k' f'
    exact q σ' H' Hs' a b
  · obtain ⟨a, b, c⟩ := out k' f'
    dsimp only at q
    obtain ⟨r', q, rr', tt⟩ := c v r _ rr q
    refine q σ' v H' Hs' a b rr' fun x hx => ?_
    rcases fr x (tt x hx) with z | z
    · exact .inl (ownB x z)
    · exact .inr z
  · obtain ⟨a, b, _⟩ := out k' f'
    exact q σ' H' Hs' a b
theorem shrink_ex {h n : Nat} {s : St} {K : St → Prop} (w : shrink h n s K) : ∃ M L ns W, s[h]? = some (some (.h M L)) ∧ pick (M.drop n) ns = some W ∧ ns.Nodup ∧ K (s.set h (some (.h (M.take n ++ W) L))) := by
  obtain ⟨M, L, e, ns, W, e2, nd, w⟩ := regK_ex w
  rw [setK_eq] at w
  exact ⟨M, L, ns, W, e, e2, nd, w⟩
theorem rgn_ok (hC : CtMono C) {h : Nat} {b : S} (ok : Ok σ st Hs H) {M0 : List (Addr × D)} {L0 : List Nat} (e0 : st[h]? = some (some (.h M0 L0))) (w : wpS C (.rgn h b) (EnOf Y E0 σ st Hs H) st) : TrS C Y b E0 σ H := by
  simp only [wpS] at w
  have el : lenH h st = M0.length := by simp only [lenH, e0]
  rw [el] at w
  have out : ∀ {σ' : L2.St} {s' : St} {Hs' H' : Hp} {K : St → Prop}, Ok σ' s' Hs' H' → Fr σ st Hs H σ' s' Hs' H' → shrink h M0.length s' K → ∃ s2, K s2 ∧ Ok σ' s2 Hs' H' ∧ Fr σ st Hs H σ' s2 Hs' H' ∧ ∀ v r, (∀ i a n, r ≠ .c i a n) → RRep σ' s' Hs' H' v r → RRep σ' s2 Hs' H' v r := by
    intro σ' s' Hs' H' K k' f' w
    obtain ⟨M, L, ns, W, eh, ep, nd, w⟩ := shrink_ex w
    obtain ⟨M', e1, g1⟩ := f'.hp h M0 L0 e0
    rw [eh] at e1; cases e1
    have ln : M0.length ≤ M.length := by
      rcases Nat.lt_or_ge M.length M0.length with z | z
      · obtain ⟨y, q, _⟩ := g1 M.length (M0[M.length]).1 (M0[M.length]).2 (List.getElem?_eq_getElem z)
        have := (List.getElem?_eq_some_iff.mp q).1
        omega
      · exact z
    have lt : (M.take M0.length).length = M0.length := by rw [List.length_take]; omega
    obtain ⟨lw, pw⟩ := pick_at ep
    -- a cell that stays stood in a place of its own
    have from_ : ∀ {n : Nat} {a : Addr} {x : D}, (M.take M0.length ++ W)[n]? = some (a, x) → (n < M0.length ∧ M[n]? = some (a, x)) ∨ (M0.length ≤ n ∧ ∃ m, ns[n - M0.length]? = some m ∧ M[M0.length + m]? = some (a, x)) := fun {n a x} q => by
      by_cases hn : n < M0.length
      · rw [List.getElem?_append_left (by omega), List.getElem?_take_of_lt hn] at q
        exact .inl ⟨hn, q⟩
      · rw [List.getElem?_append_right (by omega), lt] at q
        obtain ⟨m, a1, a2⟩ := pw _ _ q
        rw [List.getElem?_drop] at a2
        exact .inr ⟨by omega, m, a1, a2⟩
    have was : ∀ {n : Nat} {a : Addr} {x : D}, (M.take M0.length ++ W)[n]? = some (a, x) → ∃ m, M[m]? = some (a, x) ∧ (n < M0.length → m = n) ∧ (M0.length ≤ n → M0.length ≤ m) := fun q => by
      rcases from_ q with ⟨h1, q⟩ | ⟨h1, m, _, q⟩
      · exact ⟨_, q, fun _ => rfl, fun z => by omega⟩
      · exact ⟨_, q, fun z => by omega, fun _ => by omega⟩
    have inL : ∀ n ∈ L0, n < M0.length := ok.inL e0
    have rg := k'.rgn eh
    have hb : h < s'.length := (List.getElem?_eq_some_iff.mp eh).1
    have sl : ∀ {i : Nat} {o : O}, (s'.set h (some (.h (M.take M0.length ++ W) L0)))[i]? = some (some o) → (∀ M L, o ≠ .h M L) → s'[i]? = some (some o) := fun {i o} q n => by
      rcases set_cases q with ⟨_, z⟩ | ⟨_, q⟩
      · cases z; exact absurd rfl (n _ _)
      · exact q
    have hr : ∀ {i : Nat} {M' : List (Addr × D)} {L' : List Nat}, (s'.set h (some (.h (M.take M0.length ++ W) L0)))[i]? = some (some (.h M' L')) → i = h ∧ M' = M.take M0.length ++ W ∧ L' = L0 := fun {i M' L'} q => by
      rcases set_cases q with ⟨e, z⟩ | ⟨ne, q⟩
      · cases z; exact ⟨e, rfl, rfl⟩
      · exact absurd (k'.one i h _ _ _ _ q eh) ne
    refine ⟨_, w, ⟨by simpa using k'.len, k'.sub, fun i o q => ?_, fun i j p xs o a q1 q2 hh q3 q4 => k'.inj i j p xs o a (sl q1 fun _ _ z => by cases z) (sl q2 (held_nh hh)) hh q3 q4, fun a ⟨i, M', L', n, x, q1, q2⟩ ⟨j, o, q3, hh, q4⟩ => ?_, fun i j M1 M2 L1 L2 q1 q2 => (hr q1).1.trans (hr q2).1.symm⟩,
      ⟨f'.sub, f'.keep, f'.dom, fun a z => ?_, f'.shr, fun i p xs q => f'.kk i p xs (sl q fun _ _ z => by cases z), fun i xs q => ?_, fun i xs q => ?_, fun i o q => ?_, by simpa using f'.sz, fun i M1 L1 q => ?_, fun i M1 L1 q => ?_⟩, fun v r nc rr => ?_⟩
    · cases o with
      | h M' L' =>
        obtain ⟨rfl, rfl, rfl⟩ := hr q
        obtain ⟨v, e, r⟩ := k'.rep i _ eh
        refine ⟨v, e, ⟨fun n a x q => ?_, fun n m a x y q1 q2 => ?_⟩, fun n hn => ?_⟩
        · obtain ⟨m, q, _⟩ := was q
          exact rg.at_ m a x q
        · rcases from_ q1 with ⟨h1, p1⟩ | ⟨h1, m1, i1, p1⟩
          · rcases from_ q2 with ⟨h2, p2⟩ | ⟨h2, m2, i2, p2⟩
            · exact rg.uniq n m a x y p1 p2
            · have := rg.uniq _ _ a x y p1 p2; omega
          · rcases from_ q2 with ⟨h2, p2⟩ | ⟨h2, m2, i2, p2⟩
            · have := rg.uniq _ _ a x y p1 p2; omega
            · have em := rg.uniq _ _ a x y p1 p2
              have em : m1 = m2 := by omega
              subst em
              have := (List.getElem?_inj (List.getElem?_eq_some_iff.mp i1).1 nd).mp (i1.trans i2.symm)
              omega
        · rw [List.length_append, lt]
          have := inL n hn
          omega
      | d y => exact k'.rep i _ (sl q fun _ _ z => by cases z)
      | l p xs => exact k'.rep i _ (sl q fun _ _ z => by cases z)
      | k p xs => exact k'.rep i _ (sl q fun _ _ z => by cases z)
    · obtain ⟨rfl, rfl, rfl⟩ := hr q1
      obtain ⟨m, q, _⟩ := was q2
      exact k'.apt a ⟨i, M, L', m, x, eh, q⟩ ⟨j, o, sl q3 (held_nh hh), hh, q4⟩
    · rcases z with ⟨i, p, xs, q1, q2⟩ | ⟨i, M', L', n, x, q1, q2, hn⟩
      · exact f'.own a (.inl ⟨i, p, xs, sl q1 (fun _ _ z => by cases z), q2⟩)
      · obtain ⟨rfl, rfl, rfl⟩ := hr q1
        obtain ⟨m, q, m1, m2⟩ := was q2
        refine f'.own a (.inr ⟨i, M, L', m, x, eh, q, fun hm => ?_⟩)
        have := inL m hm
        rcases Nat.lt_or_ge n M0.length with z | z
        · rw [m1 z] at hm; exact hn hm
        · have := m2 z; omega
    · obtain ⟨a, b⟩ := f'.kp i xs q
      have ne : i ≠ h := fun z => by subst z; rw [eh] at a; cases a
      exact ⟨by rw [List.getElem?_set_ne (Ne.symm ne)]; exact a, b⟩
    · obtain ⟨ys, a, b⟩ := f'.lp i xs q
      have ne : i ≠ h := fun z => by subst z; rw [eh] at a; cases a
      exact ⟨ys, by rw [List.getElem?_set_ne (Ne.symm ne)]; exact a, b⟩
    · obtain ⟨o', a⟩ := f'.bd i o q
      by_cases ne : i = h
      · subst ne; exact ⟨_, set_self eh⟩
      · exact ⟨o', by rw [List.getElem?_set_ne (Ne.symm ne)]; exact a⟩
    · have := ok.one i h _ _ _ _ q e0
      subst this
      rw [e0] at q; cases q
      refine ⟨_, set_self eh, fun n a x q => ?_⟩
      obtain ⟨y, c1, c2⟩ := g1 n a x q
      have hn := (List.getElem?_eq_some_iff.mp q).1
      exact ⟨y, by rw [List.getElem?_append_left (by omega), List.getElem?_take_of_lt hn]; exact c1, c2⟩
    · obtain ⟨rfl, rfl, rfl⟩ := hr q
      obtain ⟨M1, d1, d2⟩ := f'.hq i M L1 eh
      refine ⟨M1, d1, fun n a x q hn => ?_⟩
      obtain ⟨m, q, m1, _⟩ := was q
      rw [m1 (inL n hn)] at q
      exact d2 n a x q hn
    · cases r with
      | c i a n => exact absurd rfl (nc i a n)
      | r i =>
        obtain ⟨e, o, q⟩ := rr
        refine ⟨e, ?_⟩
        by_cases ne : i = h
        · subst ne; exact ⟨_, set_self eh⟩
        · exact ⟨o, by rw [List.getElem?_set_ne (Ne.symm ne)]; exact q⟩
      | v o =>
        cases o with
        | d y => exact rr
        | k p xs => exact rr
        | h M L => exact rr
        | l p xs =>
          obtain ⟨a, vs, e, h1, h2, h3, h4⟩ := rr
          refine ⟨a, vs, e, h1, h2, h3, fun z => h4 ?_⟩
          rcases z with ⟨i, o, q1, q2, q3⟩ | ⟨i, M', L', n, x, q1, q2⟩
          · exact .inl ⟨i, o, sl q1 (held_nh q2), q2, q3⟩
          · obtain ⟨rfl, rfl, rfl⟩ := hr q1
            obtain ⟨m, q, _⟩ := was q2
            exact .inr ⟨i, M, L', m, x, eh, q⟩
  refine ⟨_, Hs, ok, wpS_mono hC b _ _ _ ?_ w⟩
  refine ⟨fun s' q σ' H' Hs' k' f' => ?_, fun r s' q σ' v H' Hs' k' f' rr fr => ?_, fun s' q => q.elim, fun s' q => q.elim, fun c ds s' q σ' H' Hs' k' f' => ?_, rfl, rfl⟩
  · dsimp only at q
    obtain ⟨s2, q, a, b, _⟩ := out k' f' q
    exact q σ' H' Hs' a b
  · dsimp only at q
    cases r with
    | c i a n =>
      obtain ⟨s2, q, a, b, c⟩ := out k' f' q
      exact q σ' v H' Hs' a b (show Sh Hs' (.ref _) v from rr.1) fun x hx => by simp [tmp] at hx
    | r i =>
      obtain ⟨s2, q, a, b, c⟩ := out k' f' q.2
      exact q σ' v H' Hs' a b (c v _ (fun _ _ _ z => by cases z) rr) fr
    | v o =>
      obtain ⟨s2, q, a, b, c⟩ := out k' f' q
      exact q σ' v H' Hs' a b (c v _ (fun _ _ _ z => by cases z) rr) fr
  · dsimp only at q
    obtain ⟨s2, q, a, b, _⟩ := out k' f' q
    exact q σ' H' Hs' a b
end
/-! ### the defs of a text, at every depth -/
section
variable {T : Tab} {gs : Gs} {P : Program} {w : World} {mg : Str → Option Value} {base : Heap}
/-- a def of the text, its core in the table at g (hk: 1 where a region is lent to it) -/
structure DefAt (T : Tab) (gs : Gs) (mg : Str → Option Value) (f g : Str) (r : Bool) (hk : Nat) (fa : Addr) (fd : FuncData) (N ps : List Str) (st : Stmt) (F : Fn) : Prop where
  mgf : mg f = some (.ref fa)
  kp : PySem.W.keepIn KF.k (.ref fa) = true
  binds : ∀ us : List Value, us.length = ps.length → bindArgs fd ⟨us, []⟩ = pure (ps.zip us)
  fn : L2.Fun KF.k f f st fa fd
  sc : L2.FnScope N ps (L2.defScope st)
  core : compD N ps gs r st = some F
  tab : T g = some F
  np : F.np = ps.length + hk
structure TopOk (T : Tab) (gs : Gs) (mg : Str → Option Value) : Prop where
  defs : ∀ f ∈ gs.fns, ∃ fa fd N ps st F, DefAt T gs mg f f false 0 fa fd N ps st F
  rdefs : ∀ f g, gs.rs.lookup f = some g → ∃ fa fd N ps st F, DefAt T gs mg f g true 0 fa fd N ps st F
  blt : ∀ x ∈ bltNames, mg x = none
  cst : ∀ x d, gs.csts.lookup x = some d → ∃ u v, mg x = some u ∧ RelV v u ∧ ∀ Hs, Sh Hs d v
  xcls : ∃ A : Nat → Addr, (∀ c ∈ gs.xcs, XcOk KF.k mg gs.xcs A c) ∧ (∀ c ∈ gs.xrs, c ∈ gs.xcs ∧ XmOk KF.k c (A c))
  mgV : mg "ValueError" = none
  hdefs : ∀ f g, gs.hs.lookup f = some g → ∃ fa fd N ps st F, DefAt T gs mg f g false 1 fa fd N ps st F
  hxdefs : ∀ f g, gs.hxs.lookup f = some g → ∃ fa fd N ps st F, DefAt T gs mg f g true 1 fa fd N ps st F
theorem takes00 {X : Cx} : L2.Takes X (fun _ _ _ _ => False) := fun _ _ x => by
  obtain ⟨_, _, _, _, _, _, _, _, _, _, _, _, _, _, _, _, z⟩ := x
  exact z.elim
theorem body_go {k : Nat} {r : Bool} {hk : Nat} {N ps : List Str} {st : Stmt} {F : Fn} (h5 : L2.FnScope N ps (L2.defScope st)) (h6 : compD N ps gs r st = some F) (hnp : F.np = ps.length + hk) {X : Cx} {Y : XP} {E0 : Ends} {vs : List V} {os : List O} {Hs H : Hp} (eN : X.N = N) (eS : X.env.scope = L2.defScope st)
    (hb : ∀ b, compSs (compS N (gs.to r) (L2.defScope st) 60) (L2.defBody st) = some b → PSs X (L2.defBody st) (TrS (call T k) Y b)) (lv : vs.length = ps.length) (lo : os.length = F.np)
    (noR : hk = 0 → ∀ (j : Nat) (M : List (Addr × D)) (L : List Nat), (os.map some)[j]? ≠ some (some (.h M L))) (ok : Ok ((vs ++ List.replicate hk V.non).map some) (os.map some) Hs H)
    (hw : ∀ σ0, σ0 = (vs ++ List.replicate hk V.non).map some ++ List.replicate (N.length - F.np) none → Ok σ0 (start F os) Hs H → wpS (call T k) F.body (EnOf Y E0 σ0 (start F os) Hs H) (start F os)) (h1 : hk = 1 → ∃ M L, os[ps.length]? = some (.h M L)) : ∃ t, PSs X (L2.defBody st) t ∧ t E0 (L2.start N vs) H := by
  have hC := call_mono T k
  have hpl : ps.length ≤ N.length := by have := congrArg List.length h5.pre; rw [List.length_take] at this; omega
  unfold compD at h6
  cases hc : compSs (compS N (gs.to r) (L2.defScope st) 60) (L2.defBody st) with
  | none => rw [hc] at h6; cases h6
  | some b =>
    rw [hc] at h6
    have p := hb b hc
    have nv : ∀ {y : Str} {h : Nat}, ixOf N y = some h → (L2.defScope st).names.lookup y = none → ∀ x, X.N[h]? = some x → ¬ Vis X.env.scope x := by
      intro y h e1 e2 x e3 e4
      rw [eN, ixOf_at e1] at e3
      cases e3
      rw [eS] at e4
      unfold L2.Vis at e4
      rw [e2] at e4
      rcases e4 with z | z | z <;> cases z
    simp only [Option.bind_some] at h6
    split at h6
    · rename_i h eh
      split at h6
      · rename_i hh
        obtain ⟨rfl, hl⟩ := hh
        cases h6
        have hk1 : hk = 1 := by
          have : ps.length + 1 = ps.length + hk := hnp
          omega
        subst hk1
        refine ⟨_, pss_ghost p (nv eh hl) .non, ?_⟩
        obtain ⟨M, L, e1⟩ := h1 rfl
        have hN : ps.length < N.length := (List.getElem?_eq_some_iff.mp (ixOf_at eh)).1
        have ok0 : Ok ((vs ++ List.replicate 1 V.non).map some ++ List.replicate (N.length - (ps.length + 1)) none) (start ⟨ps.length + 1, N.length, .rgn ps.length b, r⟩ os) Hs H := start_ok ok rfl
        have es : (L2.start N vs).set ps.length (some V.non) = (vs ++ List.replicate 1 V.non).map some ++ List.replicate (N.length - (ps.length + 1)) none := by
          unfold L2.start
          rw [lv, show N.length - ps.length = (N.length - (ps.length + 1)) + 1 by omega, List.replicate_succ]
          rw [List.set_append_right _ _ (by simp [lv])]
          simp [lv]
        rw [es]
        refine rgn_ok hC ok0 (M0 := M) (L0 := L) ?_ (hw _ rfl ok0)
        show (os.map some ++ List.replicate _ none)[ps.length]? = _
        rw [List.getElem?_append_left (by simp; omega), List.getElem?_map, e1]
        rfl
      · cases h6
    · have hk0 : ∀ {B : S}, (⟨ps.length, N.length, B, r⟩ : Fn) = F → hk = 0 := fun {B} e => by
        subst e
        have : ps.length = ps.length + hk := hnp
        omega
      split at h6
      · rename_i h eh
        split at h6
        · rename_i hh
          cases h6
          have hk0 := hk0 rfl
          subst hk0
          refine ⟨_, pss_ghost p (nv eh hh.2) .non, ?_⟩
          have ok' : Ok (vs.map some) (os.map some) Hs H := by simpa using ok
          have ok0 : Ok (L2.start N vs) (start ⟨ps.length, N.length, .root h b, r⟩ os) Hs H := start_ok ok' (by rw [lv])
          refine root_ok hC ok0 (fun j M L q => noR rfl j M L (app_cases q)) (hw _ ?_ ok0)
          unfold L2.start
          rw [lv]
          simp
        · cases h6
      · cases h6
        have hk0 := hk0 rfl
        subst hk0
        refine ⟨_, p, ?_⟩
        have ok' : Ok (vs.map some) (os.map some) Hs H := by simpa using ok
        have ok0 : Ok (L2.start N vs) (start ⟨ps.length, N.length, b, r⟩ os) Hs H := start_ok ok' (by rw [lv])
        refine ⟨_, Hs, ok0, hw _ ?_ ok0⟩
        unfold L2.start
        rw [lv]
        simp
theorem fn_all (t : TopOk T gs mg) : ∀ (k : Nat), (∀ (f : Str) (fa : Addr) (fd : FuncData) (N ps : List Str) (st : Stmt) (F : Fn), DefAt T gs mg f f false 0 fa fd N ps st F → FnG P w KF.k mg base (k + 2) fa fd ps (spF (call T k) f ps.length)) ∧
    (∀ (f g : Str) (fa : Addr) (fd : FuncData) (N ps : List Str) (st : Stmt) (F : Fn), DefAt T gs mg f g true 0 fa fd N ps st F → FnX P w KF.k mg base (k + 2) fa fd ps (spX (call T k) mg gs.xrs g ps.length)) ∧
    (∀ (f g : Str) (fa : Addr) (fd : FuncData) (N ps : List Str) (st : Stmt) (F : Fn), DefAt T gs mg f g false 1 fa fd N ps st F → FnG P w KF.k mg base (k + 2) fa fd ps (spH (call T k) g ps.length)) ∧
    (∀ (f g : Str) (fa : Addr) (fd : FuncData) (N ps : List Str) (st : Stmt) (F : Fn), DefAt T gs mg f g true 1 fa fd N ps st F → FnX P w KF.k mg base (k + 2) fa fd ps (spHX (call T k) mg gs.xrs g ps.length))
  | 0 => by
    refine ⟨fun f fa fd N ps st F d => ⟨fun _ _ _ _ q => q.1, fun A outer s H args us vs Q E _ _ _ _ _ q => ?_⟩, fun f g fa fd N ps st F d => ⟨fun _ _ _ _ q => q.1, fun A outer s H args us vs Q E _ _ _ _ _ q => ?_⟩, fun f g fa fd N ps st F d => ⟨fun _ _ _ _ q => q.1, fun A outer s H args us vs Q E _ _ _ _ _ q => ?_⟩, fun f g fa fd N ps st F d => ⟨fun _ _ _ _ q => q.1, fun A outer s H args us vs Q E _ _ _ _ _ q => ?_⟩⟩
    · obtain ⟨_, os, Hs, _, _, q⟩ := q; exact q.elim
    · obtain ⟨_, os, Hs, _, _, q⟩ := q; exact q.elim
    · obtain ⟨_, os, Hs, _, _, _, q⟩ := q; exact q.elim
    · obtain ⟨_, os, Hs, _, _, _, q⟩ := q; exact q.elim
  | k + 1 => by
    have hC := call_mono T k
    obtain ⟨ih1, ih2, ih3, ih4⟩ := fn_all t k
    have gd : ∀ {r : Bool} {N ps : List Str} {st : Stmt} {X : Cx} {Y : XP}, L2.FnScope N ps (L2.defScope st) → X.prog = P → X.w = w → X.K = KF.k → X.mg = mg → X.base = base → X.N = N → X.env.scope = L2.defScope st → X.calm = true → X.A.guards = some [] → Room (k + 2) X.A → Y.mg = mg → Y.xrs = gs.xrs →
        ((gs.to r).rz = true → L2.Takes X Y.W) → Gd T k (gs.to r) N (L2.defScope st) X Y := by
      intro r N ps st X Y h5 e1 e2 e3 e4 e5 e6 e7 e8 e9 e10 e11 e12 tk
      refine ⟨e6, h5.nd, e7, e8, e3, e10, e9, fun x hx => by rw [e4]; exact t.blt x hx, fun x d h => by rw [e4]; exact t.cst x d h, fun g hg => ?_, by rw [e4, e11], e12.symm, tk, fun f' g hg => ?_, by rw [e3, e4]; exact t.xcls, fun f' g hg => ?_, fun f' g hg => ?_⟩
      · obtain ⟨fa', fd', N', ps', st', F', d'⟩ := t.defs g hg
        exact ⟨fa', fd', ps', by rw [e4]; exact d'.mgf, by rw [e3]; exact d'.kp, by rw [e3]; exact .all d'.binds, ⟨F', d'.tab, d'.np⟩, by rw [e1, e2, e3, e4, e5]; exact ih1 g fa' fd' N' ps' st' F' d'⟩
      · obtain ⟨fa', fd', N', ps', st', F', d'⟩ := t.rdefs f' g hg
        exact ⟨fa', fd', ps', by rw [e4]; exact d'.mgf, by rw [e3]; exact d'.kp, by rw [e3]; exact .all d'.binds, ⟨F', d'.tab, d'.np⟩, by rw [e1, e2, e3, e4, e5]; exact ih2 f' g fa' fd' N' ps' st' F' d'⟩
      · obtain ⟨fa', fd', N', ps', st', F', d'⟩ := t.hdefs f' g hg
        exact ⟨fa', fd', ps', by rw [e4]; exact d'.mgf, by rw [e3]; exact d'.kp, by rw [e3]; exact .all d'.binds, ⟨F', d'.tab, d'.np⟩, by rw [e1, e2, e3, e4, e5]; exact ih3 f' g fa' fd' N' ps' st' F' d'⟩
      · obtain ⟨fa', fd', N', ps', st', F', d'⟩ := t.hxdefs f' g hg
        exact ⟨fa', fd', ps', by rw [e4]; exact d'.mgf, by rw [e3]; exact d'.kp, by rw [e3]; exact .all d'.binds, ⟨F', d'.tab, d'.np⟩, by rw [e1, e2, e3, e4, e5]; exact ih4 f' g fa' fd' N' ps' st' F' d'⟩
    -- behind a body that raises nothing, that may raise
    have endsG : ∀ {F : Fn} {hk : Nat} {vs' : List V} {os : List O} {Hs H : Hp} {Q : VK} {Y : XP} {b : S} {n : Nat}, Ok (vs'.map some) (os.map some) Hs H → os.length = F.np → vs'.length = F.np → F.rz = false → Y.cur = none →
        wpS (call T k) b (endsOf F fun res fin => ∀ v H' Hs', CallPost vs' os Hs H res fin v H' Hs' → Q v H') (start F os) → wpS (call T k) b (EnOf Y { nx := fun _ H' => Q .non H', rt := Q } (vs'.map some ++ List.replicate n none) (start F os) Hs H) (start F os) := by
      intro F hk vs' os Hs H Q Y b n ok lo lv hz hcur wp
      refine wpS_mono hC b _ _ _ ?_ wp
      refine ⟨fun s' q σ' H' Hs' k' f' => ?_, fun r s' q σ' v H' Hs' k' f' rr fr => ?_, fun s' q => q.elim, fun s' q => q.elim, (fun c ds s' q => by have := q.1; rw [hz] at this; cases this), hcur.symm, rfl⟩
      · exact q .non H' Hs' (leave_post (r := .v (.d .non)) (o := .d .non) ok lo lv k' f' rfl (fun a ha => by simp [tmp] at ha) rfl)
      · obtain ⟨o, s2, e2, _, q⟩ := q
        exact q v H' Hs' (leave_post ok lo lv k' f' rr fr e2)
    have endsX : ∀ {F : Fn} {hk : Nat} {vs' : List V} {os : List O} {Hs H : Hp} {Q : VK} {E : L2.XK} {b : S} {n : Nat}, Ok (vs'.map some) (os.map some) Hs H → os.length = F.np → vs'.length = F.np → F.rz = true →
        wpS (call T k) b (endsOf F fun res fin => excTo res (fun c ds => ∀ H' Hs', CallPost vs' os Hs H (.d .non) fin .non H' Hs' → ExG mg gs.xrs E c ds H') (∀ v H' Hs', CallPost vs' os Hs H res fin v H' Hs' → Q v H')) (start F os) →
        wpS (call T k) b (EnOf ⟨fun cls d _ H => E cls d H, mg, none, gs.xrs⟩ { nx := fun _ H' => Q .non H', rt := Q } (vs'.map some ++ List.replicate n none) (start F os) Hs H) (start F os) := by
      intro F hk vs' os Hs H Q E b n ok lo lv hz wp
      refine wpS_mono hC b _ _ _ ?_ wp
      refine ⟨fun s' q σ' H' Hs' k' f' => ?_, fun r s' q σ' v H' Hs' k' f' rr fr => ?_, fun s' q => q.elim, fun s' q => q.elim, fun c ds s' q σ' H' Hs' k' f' => ?_, rfl, rfl⟩
      · exact q .non H' Hs' (leave_post (r := .v (.d .non)) (o := .d .non) ok lo lv k' f' rfl (fun a ha => by simp [tmp] at ha) rfl)
      · obtain ⟨o, s2, e2, x, q⟩ := q
        unfold excTo at q
        rw [x hz] at q
        exact q v H' Hs' (leave_post ok lo lv k' f' rr fr e2)
      · exact q.2 H' Hs' (leave_post (r := .v (.d .non)) (o := .d .non) ok lo lv k' f' rfl (fun a ha => by simp [tmp] at ha) rfl)
    have rzOf : ∀ {N ps : List Str} {r : Bool} {st : Stmt} {F : Fn}, compD N ps gs r st = some F → F.rz = r := by
      intro N ps r st F h6
      unfold compD at h6
      cases hc : compSs (compS N (gs.to r) (L2.defScope st) 60) (L2.defBody st) with
      | none => rw [hc] at h6; cases h6
      | some b =>
        rw [hc] at h6
        simp only [Option.bind_some] at h6
        repeat' split at h6
        all_goals first | (cases h6; rfl) | cases h6
    refine ⟨fun f fa fd N ps st F d => ?_, fun f g fa fd N ps st F d => ?_, fun f g fa fd N ps st F d => ?_, fun f g fa fd N ps st F d => ?_⟩
    · refine fnG_of d.fn d.sc (fun _ _ _ _ q => q.1) fun cdv A outer s H vs Q E hgd hr hsp => ?_
      obtain ⟨lv, os, Hs, noR, ok, F', e1, lo, wp⟩ := hsp
      rw [d.tab] at e1; cases e1
      refine body_go (T := T) (k := k) (hk := 0) (Y := ⟨fun _ _ _ _ => False, mg, none, gs.xrs⟩) d.sc d.core d.np rfl rfl (fun b hb => sss (snd_S 60 _ _ _ ?_) hb) lv lo (fun _ => noR) (by simpa using ok) (fun σ0 e0 _ => ?_) (fun z => by cases z)
      · exact ⟨gd d.sc rfl rfl rfl rfl rfl rfl rfl rfl hgd hr rfl rfl (fun z => by cases z), fun _ => rfl, PassesOwn.never, d.sc.kind, takes00, rfl, rfl, rfl, t.mgV⟩
      · subst e0
        simp only [List.replicate_zero, List.append_nil]
        exact endsG (Y := ⟨fun _ _ _ _ => False, mg, none, gs.xrs⟩) (hk := 0) ok lo (by rw [lv, d.np]; rfl) (rzOf d.core) rfl wp
    · refine fnX_of d.fn d.sc (fun _ _ _ _ q => q.1) fun cdv A outer s H vs Q E hgd hr hsp => ?_
      have tk : L2.Takes (L2.cxOf (L2.CX P w) P w KF.k mg base N f (L2.defScope st) fa cdv A outer s H E) (fun cls d _ H => E cls d H) := L2.takes_of rfl rfl rfl rfl
      obtain ⟨lv, os, Hs, noR, ok, F', e1, lo, wp⟩ := hsp
      rw [d.tab] at e1; cases e1
      refine body_go (T := T) (k := k) (hk := 0) (Y := ⟨fun cls d _ H => E cls d H, mg, none, gs.xrs⟩) d.sc d.core d.np rfl rfl (fun b hb => sss (snd_S 60 _ _ _ ?_) hb) lv lo (fun _ => noR) (by simpa using ok) (fun σ0 e0 _ => ?_) (fun z => by cases z)
      · exact ⟨gd d.sc rfl rfl rfl rfl rfl rfl rfl rfl hgd hr rfl rfl (fun _ => tk), fun _ => rfl, L2.passes_of rfl, d.sc.kind, tk, rfl, rfl, rfl, t.mgV⟩
      · subst e0
        simp only [List.replicate_zero, List.append_nil]
        exact endsX (hk := 0) ok lo (by rw [lv, d.np]; rfl) (rzOf d.core) wp
    · refine fnG_of d.fn d.sc (fun _ _ _ _ q => q.1) fun cdv A outer s H vs Q E hgd hr hsp => ?_
      obtain ⟨lv, os, Hs, lo1, hM, ok, F', e1, lo, wp⟩ := hsp
      rw [d.tab] at e1; cases e1
      refine body_go (T := T) (k := k) (hk := 1) (Y := ⟨fun _ _ _ _ => False, mg, none, gs.xrs⟩) d.sc d.core d.np rfl rfl (fun b hb => sss (snd_S 60 _ _ _ ?_) hb) lv lo (fun z => by cases z) ok (fun σ0 e0 _ => ?_) (fun _ => hM)
      · exact ⟨gd d.sc rfl rfl rfl rfl rfl rfl rfl rfl hgd hr rfl rfl (fun z => by cases z), fun _ => rfl, PassesOwn.never, d.sc.kind, takes00, rfl, rfl, rfl, t.mgV⟩
      · subst e0
        exact endsG (vs' := vs ++ List.replicate 1 V.non) (Y := ⟨fun _ _ _ _ => False, mg, none, gs.xrs⟩) (hk := 1) ok lo (by rw [d.np]; simp [lv]) (rzOf d.core) rfl wp
    · refine fnX_of d.fn d.sc (fun _ _ _ _ q => q.1) fun cdv A outer s H vs Q E hgd hr hsp => ?_
      have tk : L2.Takes (L2.cxOf (L2.CX P w) P w KF.k mg base N f (L2.defScope st) fa cdv A outer s H E) (fun cls d _ H => E cls d H) := L2.takes_of rfl rfl rfl rfl
      obtain ⟨lv, os, Hs, lo1, hM, ok, F', e1, lo, wp⟩ := hsp
      rw [d.tab] at e1; cases e1
      refine body_go (T := T) (k := k) (hk := 1) (Y := ⟨fun cls d _ H => E cls d H, mg, none, gs.xrs⟩) d.sc d.core d.np rfl rfl (fun b hb => sss (snd_S 60 _ _ _ ?_) hb) lv lo (fun z => by cases z) ok (fun σ0 e0 _ => ?_) (fun _ => hM)
      · exact ⟨gd d.sc rfl rfl rfl rfl rfl rfl rfl rfl hgd hr rfl rfl (fun _ => tk), fun _ => rfl, L2.passes_of rfl, d.sc.kind, tk, rfl, rfl, rfl, t.mgV⟩
      · subst e0
        exact endsX (vs' := vs ++ List.replicate 1 V.non) (hk := 1) ok lo (by rw [d.np]; simp [lv]) (rzOf d.core) wp
/-! ### the law -/
def spLaw (m : Nat) : Sp := fun vs H Q _ => ∃ (a : Addr) (ns : List Int), vs = [.ref a] ∧ L2.SqL KF.k H a (ns.map V.int) ∧ ns.length ≤ m ∧ ∀ H', Q (.bl true) H'
theorem law_ok {m k : Nat} {f : Str} {fa : Addr} {fd : FuncData} {N ps : List Str} {st : Stmt} {F : Fn} (t : TopOk T gs mg) (d : DefAt T gs mg f f false 0 fa fd N ps st F) (hp : ps.length = 1)
    (spec : ∀ ns : List Int, ns.length ≤ m → ∀ Q, (∀ fin, Q (.d (.bl true)) fin) → call T k f [.d (.frz (ns.map .int))] Q) : FnG P w KF.k mg base (k + 2) fa fd ps (spLaw m) := by
  refine ((fn_all t k).1 f fa fd N ps st F d).imp fun vs H Q E h => ?_
  obtain ⟨a, ns, rfl, hs, hl, q⟩ := h
  refine ⟨hp.symm, [.d (.frz (ns.map .int))], H, fun j M L e => ?_, ⟨rfl, fun _ _ e => e, fun i o e => ?_, fun i j p xs o b e1 => ?_, fun a z => ?_, fun i j M M' L L' e => ?_⟩, spec ns hl _ fun fin v H' Hs' cp => ?_⟩
  · cases j with
    | zero => simp at e
    | succ j => simp at e
  · cases i with
    | zero =>
      simp at e
      subst e
      exact ⟨_, rfl, a, _, rfl, hs, ShA.ofInts ns⟩
    | succ i => simp at e
  · cases i with
    | zero => simp at e1
    | succ i => simp at e1
  · obtain ⟨i, M, L, n, x, e, _⟩ := z
    cases i with
    | zero => simp at e
    | succ i => simp at e
  · cases i with
    | zero => simp at e
    | succ i => simp at e
  · cases (show v = _ from cp.res)
    exact q H'
end
end Itp
namespace Itp
open PySem PySem.Spec PyProof.Rows
open L2 (V Hp HO RelV)
/-! ### from what the top has left -/
theorem def_mk {T : Tab} {gs : Gs} {K : PySem.W.Frag} {h : Heap} {mg : Str → Option Value} {f g : Str} {r : Bool} {N ps : List Str} {st : Stmt} {F : Fn} {fa : Addr} (X : K.In h) (G : h.Ns mainGlobals mg) (sc : L2.FnScope N ps (L2.defScope st)) (core : compD N ps gs r st = some F) (tab : T g = some F) {hk : Nat} (np : F.np = ps.length + hk)
    (b : ∀ (kV doc pm : Value) (an : Option Addr) (cdv ct : Value) (us : List Value), us.length = ps.length → bindArgs (PySem.W.fnOf f f (L2.defArgs st) (L2.defBody st) (L2.defScope st) .none kV doc pm an cdv ct) ⟨us, []⟩ = pure (ps.zip us))
    {oc : Value} {od an : Option Addr} {osl : Array (Option Value)} {kV doc pm cdv ct : Value} (a1 : PySem.W.nsIn K mainGlobals f = some (some (.ref fa))) (l1 : K.lookup fa = some ⟨oc, od, .func (PySem.W.fnOf f f (L2.defArgs st) (L2.defBody st) (L2.defScope st) .none kV doc pm an cdv ct), osl⟩)
    (c1 : PySem.W.codeIn K cdv f = true) (k1 : PySem.W.keepIn K (.ref fa) = true) :
    @DefAt ⟨K⟩ T gs mg f g r hk fa (PySem.W.fnOf f f (L2.defArgs st) (L2.defBody st) (L2.defScope st) .none kV doc pm an cdv ct) N ps st F :=
  @DefAt.mk ⟨K⟩ T gs mg f g r hk fa _ N ps st F (PySem.W.mg_of X G a1) k1 (b kV doc pm an cdv ct) (L2.fun_mk l1 c1 k1) sc core tab np
theorem blt_mk {K : PySem.W.Frag} {h : Heap} {mg : Str → Option Value} (X : K.In h) (G : h.Ns mainGlobals mg) (a : ∀ x ∈ bltNames, PySem.W.nsIn K mainGlobals x = some none) : ∀ x ∈ bltNames, mg x = none := fun x hx => PySem.W.mg_none_of X G (a x hx)
theorem cst_int {K : PySem.W.Frag} {h : Heap} {mg : Str → Option Value} {x : Str} {i : Int} {t : Tok} (X : K.In h) (G : h.Ns mainGlobals mg) (a : PySem.W.nsIn K mainGlobals x = some (some (.int i t))) : ∃ u v, mg x = some u ∧ RelV v u ∧ ∀ Hs, @Sh ⟨K⟩ Hs (.int i) v :=
  ⟨_, .int i, PySem.W.mg_of X G a, ⟨_, rfl⟩, fun _ => rfl⟩
/-- the __init__ of a class -/
def ctorOf : Stmt → Stmt
  | .ClassDef _ _ _ body _ _ _ _ _ _ _ => (body.find? fun s => match s with | .FunctionDef _ _ _ _ _ _ _ _ _ _ => true | _ => false).getD (.Pass ⟨0, 0, 0, 0⟩)
  | s => s
/-- an own exception class, as the top has left it -/
structure XTop (K : PySem.W.Frag) (c : Nat) (n : Str) (C : Addr) : Prop where
  nm : xNm[c]? = some n
  aC : PySem.W.nsIn K mainGlobals n = some (some (.ref C))
  kp : PySem.W.keepIn K (.ref C) = true
  sb : PySem.W.subIn K (.ref C) (.type "BaseException") = some true
  ty : PySem.W.typeIn K (.ref C) = some (.type "type")
  hd : PySem.W.hasDictIn K C = true
  sv : PySem.W.subIn K (.ref C) (.type "ValueError") = some true
theorem XTop.ok {K : PySem.W.Frag} {c : Nat} {n : Str} {C : Addr} (x : XTop K c n C) {h : Heap} {mg : Str → Option Value} (X : K.In h) (G : h.Ns mainGlobals mg) {xcs : List Nat} {A : Nat → Addr} (e : A c = C)
    (su : ∀ c' ∈ xcs, PySem.W.subIn K (.ref C) (.ref (A c')) = some (xsub c c')) : XcOk K mg xcs A c := by
  subst e
  exact ⟨⟨n, x.nm, PySem.W.mg_of X G x.aC⟩, x.kp, x.sb, x.ty, x.hd, x.sv, su⟩
end Itp

/-! Run: the interpreter once more, so that it unfolds by computation; what it tells, wp tells. -/
namespace Itp
open PySem
def ob {α : Type} (o : Option α) (f : α → Prop) : Prop := match o with
  | some x => f x
  | none => False
theorem ob_ex {α : Type} {o : Option α} {f : α → Prop} (h : ob o f) : ∃ x, o = some x ∧ f x := by
  cases o with
  | none => exact h.elim
  | some x => exact ⟨x, rfl, h⟩
def ob2 {α β : Type} (o : Option (α × β)) (f : α → β → Prop) : Prop := match o with
  | some (x, y) => f x y
  | none => False
theorem ob2_ex {α β : Type} {o : Option (α × β)} {f : α → β → Prop} (h : ob2 o f) : ∃ p, o = some p ∧ f p.1 p.2 := by
  cases o with
  | none => exact h.elim
  | some x => exact ⟨x, rfl, h⟩
theorem listK_eq {α : Type} : ∀ (l : List α) (K : List α → Prop), listK l K = K l
  | [], _ => rfl
  | a :: l, K => by rw [listK, listK_eq l]
def newCK (h : Nat) (x : D) (s : St) (Q : Addr → St → Prop) : Prop := regK h s fun M L => ∀ a : Addr, listK (M ++ [(a, x)]) fun M' => setK s h (some (.h M' L)) fun s' => Q a s'
def putCK (h j : Nat) (x : D) (s : St) (Q : St → Prop) : Prop := regK h s fun M L => match M[j]? with
  | some (a, _) => L.contains j = false ∧ listK (M.set j (a, x)) fun M' => setK s h (some (.h M' L)) Q
  | none => False
theorem newCK_ex {h : Nat} {x : D} {s : St} {Q : Addr → St → Prop} (w : newCK h x s Q) : newC h x s Q := regK_mono (fun M L w a => by have := w a; rwa [listK_eq] at this) w
theorem putCK_ex {h j : Nat} {x : D} {s : St} {Q : St → Prop} (w : putCK h j x s Q) : putC h j x s Q := regK_mono (fun M L w => by
  split at w
  · rename_i a y q
    try rw [q]
    exact ⟨w.1, by have := w.2; rwa [listK_eq] at this⟩
  · exact w.elim) w
def celRK (h : Nat) (r : R) (s : St) (Q : R → St → Prop) : Prop := match r with
  | .v (.l _ xs) => newCK h (.lst xs) s fun a s' => Q (.v (.d (.ref a))) s'
  | .r i => match s[i]? with
    | some (some (.l false xs)) => setK s i none fun s1 => newCK h (.lst xs) s1 fun a s2 => setK s2 i (some (.d (.ref a))) fun s3 => Q (.v (.d (.ref a))) s3
    | _ => False
  | _ => False
theorem celRK_ex {h : Nat} {r : R} {s : St} {Q : R → St → Prop} (w : celRK h r s Q) : celR h r s Q := by
  cases r with
  | v o => cases o <;> first | exact newCK_ex w | exact (show False from w).elim
  | c _ _ _ => exact (show False from w).elim
  | r i =>
    unfold celRK at w
    unfold celR
    simp only at w ⊢
    generalize s[i]? = q at w ⊢
    rcases q with _ | (_ | (x | ⟨p, xs⟩ | ⟨p, xs⟩ | ⟨M, L⟩))
    · exact w.elim
    · exact w.elim
    · exact w.elim
    · cases p
      · exact setK_mono (fun s w => newCK_ex w) w
      · exact w.elim
    · exact w.elim
    · exact w.elim
def shrinkK (h n : Nat) (s : St) (Q : St → Prop) : Prop := regK h s fun M L => ∃ ns W, pick (M.drop n) ns = some W ∧ ns.Nodup ∧ listK (M.take n ++ W) fun M' => setK s h (some (.h M' L)) Q
theorem shrinkK_ex {h n : Nat} {s : St} {Q : St → Prop} (w : shrinkK h n s Q) : shrink h n s Q := regK_mono (fun M L ⟨ns, W, e, nd, w⟩ => ⟨ns, W, e, nd, by rwa [listK_eq] at w⟩) w
def normK : St → (St → Prop) → Prop
  | [], K => K []
  | a :: s, K => normK s fun s' => K (a :: s')
theorem normK_eq : ∀ (s : St) (K : St → Prop), normK s K = K s
  | [], _ => rfl
  | a :: s, K => by rw [normK, normK_eq s]
def putK (i : Nat) (o : O) (s : St) (K : St → Prop) : Prop := match s[i]? with
  | some none => setK s i (some o) K
  | some (some (.d _)) => setK s i (some o) K
  | some (some (.l false _)) => setK s i (some o) K
  | some (some (.k false _)) => setK s i (some o) K
  | _ => False
theorem putK_ex {i : Nat} {o : O} {s : St} {K : St → Prop} (h : putK i o s K) : ∃ s', put i o s = some s' ∧ K s' := by
  unfold putK at h
  unfold put
  have fin : setK s i (some o) K → ∃ s', some (s.set i (some o)) = some s' ∧ K s' := fun h => by
    rw [setK_eq] at h
    exact ⟨_, rfl, h⟩
  generalize s[i]? = r at h ⊢
  rcases r with _ | (_ | (x | ⟨p, xs⟩ | ⟨p, xs⟩ | ⟨M, L⟩))
  · exact h.elim
  · exact fin h
  · exact fin h
  · cases p
    · exact fin h
    · exact h.elim
  · cases p
    · exact fin h
    · exact h.elim
  · exact h.elim
mutual
def setTgK : Tg → D → St → (St → Prop) → Prop
  | .nm i, x, s, K => putK i (.d x) s K
  | .tp t, .tup xs, s, K => setTgsK t xs s K
  | .tp t, .lst xs, s, K => setTgsK t xs s K
  | _, _, _, _ => False
def setTgsK : Tg → List D → St → (St → Prop) → Prop
  | .nil, [], s, K => K s
  | .cons a b, x :: xs, s, K => setTgK a x s fun s1 => setTgsK b xs s1 K
  | _, _, _, _ => False
end
theorem setTg_exs : ∀ t : Tg, (∀ (x : D) (s : St) (K : St → Prop), setTgK t x s K → ∃ s', setTg t x s = some s' ∧ K s') ∧ ∀ (xs : List D) (s : St) (K : St → Prop), setTgsK t xs s K → ∃ s', setTgs t xs s = some s' ∧ K s' := by
  intro t
  induction t with
  | nm i =>
    refine ⟨fun x s K h => ?_, fun xs s K h => ?_⟩
    · simp only [setTgK] at h
      obtain ⟨s', e, q⟩ := putK_ex h
      exact ⟨s', by simp only [setTg]; exact e, q⟩
    · cases xs <;> simp only [setTgsK] at h
  | tp t ih =>
    refine ⟨fun x s K h => ?_, fun xs s K h => ?_⟩
    · cases x <;> simp only [setTgK] at h
      all_goals
        obtain ⟨s', e, q⟩ := ih.2 _ _ _ h
        exact ⟨s', by simp only [setTg]; exact e, q⟩
    · cases xs <;> simp only [setTgsK] at h
  | nil =>
    refine ⟨fun x s K h => ?_, fun xs s K h => ?_⟩
    · cases x <;> simp only [setTgK] at h
    · cases xs <;> simp only [setTgsK] at h
      exact ⟨s, by simp only [setTgs], h⟩
  | cons a b iha ihb =>
    refine ⟨fun x s K h => ?_, fun xs s K h => ?_⟩
    · cases x <;> simp only [setTgK] at h
    · cases xs with
      | nil => simp only [setTgsK] at h
      | cons x xs =>
        simp only [setTgsK] at h
        obtain ⟨s1, e1, q⟩ := iha.1 _ _ _ h
        obtain ⟨s2, e2, q⟩ := ihb.2 _ _ _ q
        exact ⟨s2, by simp only [setTgs, e1]; exact e2, q⟩
theorem setTgK_ex {t : Tg} {x : D} {s : St} {K : St → Prop} (h : setTgK t x s K) : ∃ s', setTg t x s = some s' ∧ K s' := (setTg_exs t).1 x s K h
def backK (s0 : St) : List R → List (Option O) → St → (St → Prop) → Prop
  | .r i :: rs, o :: os, s, K => match s0[i]? with
    | some (some (.l p _)) => match o with
      | some (.l true ys) => setK s i (some (.l p ys)) fun s' => backK s0 rs os s' K
      | _ => False
    | _ => backK s0 rs os s K
  | .v _ :: rs, _ :: os, s, K => backK s0 rs os s K
  | .c _ _ _ :: rs, _ :: os, s, K => backK s0 rs os s K
  | [], [], s, K => K s
  | _, _, _, _ => False
theorem backK_ex {s0 : St} : ∀ {rs : List R} {os : List (Option O)} {s : St} {K : St → Prop}, backK s0 rs os s K → ∃ s2, back s0 rs os s = some s2 ∧ K s2
  | [], [], s, K, h => ⟨s, rfl, h⟩
  | [], _ :: _, s, K, h => h.elim
  | .v _ :: _, [], s, K, h => h.elim
  | .c _ _ _ :: _, [], s, K, h => h.elim
  | .c _ _ _ :: rs, _ :: os, s, K, h => by
    have h : backK s0 rs os s K := h
    exact backK_ex (rs := rs) (os := os) h
  | .r _ :: _, [], s, K, h => h.elim
  | .v _ :: rs, _ :: os, s, K, h => by
    have h : backK s0 rs os s K := h
    exact backK_ex (rs := rs) (os := os) h
  | .r i :: rs, o :: os, s, K, h => by
    simp only [backK] at h
    simp only [back]
    generalize s0[i]? = r at h ⊢
    rcases r with _ | (_ | (x | ⟨p, xs⟩ | ⟨p, xs⟩ | ⟨M, L⟩))
    · exact backK_ex (rs := rs) (os := os) h
    · exact backK_ex (rs := rs) (os := os) h
    · exact backK_ex (rs := rs) (os := os) h
    · rcases o with _ | (x | ⟨p', ys⟩ | ⟨p', ys⟩ | ⟨M, L⟩)
      · exact h.elim
      · exact h.elim
      · cases p'
        · exact h.elim
        · have h : setK s i (some (.l p ys)) (fun s' => backK s0 rs os s' K) := h
          rw [setK_eq] at h
          exact backK_ex (rs := rs) (os := os) h
      · exact h.elim
      · exact h.elim
    · exact backK_ex (rs := rs) (os := os) h
    · exact backK_ex (rs := rs) (os := os) h
def asI (x : D) (Q : Int → Prop) : Prop := match x with
  | .int i => Q i
  | _ => False
def asB (x : D) (Q : Bool → Prop) : Prop := match x with
  | .bl i => Q i
  | _ => False
def asL (x : D) (Q : List D → Prop) : Prop := match x with
  | .lst i => Q i
  | _ => False
theorem asI_ex {x : D} {Q : Int → Prop} (h : asI x Q) : ∃ i, x = .int i ∧ Q i := by cases x <;> first | exact ⟨_, rfl, h⟩ | exact h.elim
theorem asB_ex {x : D} {Q : Bool → Prop} (h : asB x Q) : ∃ i, x = .bl i ∧ Q i := by cases x <;> first | exact ⟨_, rfl, h⟩ | exact h.elim
theorem asL_ex {x : D} {Q : List D → Prop} (h : asL x Q) : ∃ i, x = .lst i ∧ Q i := by cases x <;> first | exact ⟨_, rfl, h⟩ | exact h.elim
def asD (x : O) (Q : D → Prop) : Prop := match x with
  | .d i => Q i
  | _ => False
theorem asD_ex {x : O} {Q : D → Prop} (h : asD x Q) : ∃ i, x = .d i ∧ Q i := by cases x <;> first | exact ⟨_, rfl, h⟩ | exact h.elim
def ownL (s : St) (i : Nat) (Q : Bool → List D → Prop) : Prop := match s[i]? with
  | some (some (.l p xs)) => Q p xs
  | _ => False
theorem ownL_ex {s : St} {i : Nat} {Q : Bool → List D → Prop} (h : ownL s i Q) : ∃ p xs, s[i]? = some (some (.l p xs)) ∧ Q p xs := by
  unfold ownL at h
  split at h
  · exact ⟨_, _, by assumption, h⟩
  · exact h.elim
def datL (s : St) (i : Nat) (Q : D → Prop) : Prop := match s[i]? with
  | some (some (.d x)) => Q x
  | _ => False
theorem datL_ex {s : St} {i : Nat} {Q : D → Prop} (h : datL s i Q) : ∃ x, s[i]? = some (some (.d x)) ∧ Q x := by
  unfold datL at h
  split at h
  · exact ⟨_, by assumption, h⟩
  · exact h.elim
def apart : List Nat → Bool
  | [] => true
  | x :: xs => !xs.contains x && apart xs
theorem apart_nd : ∀ {L : List Nat}, apart L = true → L.Nodup
  | [], _ => .nil
  | x :: xs, h => by
    simp only [apart, Bool.and_eq_true, Bool.not_eq_true', List.contains_eq_mem, decide_eq_false_iff_not] at h
    exact List.nodup_cons.mpr ⟨h.1, apart_nd h.2⟩
def sure (b : Bool) (P : Prop) : Prop := match b with
  | true => P
  | false => False
theorem sure_ex {b : Bool} {P : Prop} (h : sure b P) : b = true ∧ P := by cases b <;> first | exact ⟨rfl, h⟩ | exact h.elim
structure Ev where
  E : St → (R → St → Prop) → Prop
  T : St → (Bool → St → Prop) → Prop
  A : St → (List R → St → Prop) → Prop
  O : St → (Option Int → St → Prop) → Prop
def Ev.of (f : St → (R → St → Prop) → Prop) : Ev where
  E := f
  T := fun s Q => f s fun r s1 => ob (view r s1) fun x => truth x fun k => Q k s1
  A := fun _ _ => False
  O := fun s Q => f s fun r s1 => ob (view r s1) fun x => asI x fun i => Q (some i) s1
def Ev.ofT (f : St → (R → St → Prop) → Prop) (t : St → (Bool → St → Prop) → Prop) : Ev where
  E := f
  T := t
  A := fun _ _ => False
  O := fun s Q => f s fun r s1 => ob (view r s1) fun x => asI x fun i => Q (some i) s1
def ev (C : Ct) (X : Xc) : E → Ev
  | .nil => ⟨fun _ _ => False, fun _ _ => False, fun s Q => Q [] s, fun _ _ => False⟩
  | .nop => ⟨fun _ _ => False, fun s Q => Q true s, fun _ _ => False, fun s Q => Q none s⟩
  | .cons a b => ⟨fun _ _ => False, fun _ _ => False, fun s Q => (ev C X a).E s fun r s1 => (ev C X b).A s1 fun rs s2 => Q (r :: rs) s2, fun _ _ => False⟩
  | .var i => .of fun s Q => match s[i]? with
    | some (some (.d x)) => Q (.v (.d x)) s
    | some (some (.l _ _)) => Q (.r i) s
    | some (some (.k _ _)) => Q (.r i) s
    | _ => False
  | .cst x => .of fun s Q => Q (.v (.d x)) s
  | .bin op a b => .of fun s Q => (ev C X a).E s fun ra s1 => (ev C X b).E s1 fun rb s2 => ob (view ra s2) fun x => ob (view rb s2) fun y => binop op x y fun z => Q (.v z) s2
  | .neg a => .of fun s Q => (ev C X a).E s fun ra s1 => ob (view ra s1) fun x => asI x fun i => Q (.v (.d (.int (-i)))) s1
  | .not_ a => .ofT (fun s Q => (ev C X a).E s fun ra s1 => ob (view ra s1) fun x => asB x fun b => Q (.v (.d (.bl (!b)))) s1) fun s Q => (ev C X a).T s fun c s1 => Q (!c) s1
  | .cmp op a b => .ofT (fun s Q => (ev C X a).E s fun ra s1 => (ev C X b).E s1 fun rb s2 => ob (view ra s2) fun x => ob (view rb s2) fun y => cmpop op x y fun z => Q (.v (.d (.bl z))) s2)
      fun s Q => (ev C X a).E s fun ra s1 => (ev C X b).E s1 fun rb s2 => ob (view ra s2) fun x => ob (view rb s2) fun y => cmpop op x y fun z => Q z s2
  | .chn o1 o2 a b c => .ofT (fun s Q => (ev C X a).E s fun ra s1 => (ev C X b).E s1 fun rb s2 => ob (view ra s2) fun x => ob (view rb s2) fun y => cmpop o1 x y fun z =>
        if z = true then (ev C X c).E s2 fun rc s3 => ob (view rb s3) fun y' => ob (view rc s3) fun w => cmpop o2 y' w fun z2 => Q (.v (.d (.bl z2))) s3 else Q (.v (.d (.bl false))) s2)
      fun s Q => (ev C X a).E s fun ra s1 => (ev C X b).E s1 fun rb s2 => ob (view ra s2) fun x => ob (view rb s2) fun y => cmpop o1 x y fun z =>
        if z = true then (ev C X c).E s2 fun rc s3 => ob (view rb s3) fun y' => ob (view rc s3) fun w => cmpop o2 y' w fun z2 => Q z2 s3 else Q false s2
  | .and_ a b => .ofT (fun s Q => (ev C X a).E s fun ra s1 => ob (view ra s1) fun x => asB x fun c => if c = true then (ev C X b).E s1 Q else Q (.v (.d (.bl false))) s1)
      fun s Q => (ev C X a).T s fun c s1 => if c = true then (ev C X b).T s1 Q else Q false s1
  | .or_ a b => .ofT (fun s Q => (ev C X a).E s fun ra s1 => ob (view ra s1) fun x => asB x fun c => if c = true then Q (.v (.d (.bl true))) s1 else (ev C X b).E s1 Q)
      fun s Q => (ev C X a).T s fun c s1 => if c = true then Q true s1 else (ev C X b).T s1 Q
  | .ite c a b => .ofT (fun s Q => (ev C X c).T s fun k s1 => if k = true then (ev C X a).E s1 Q else (ev C X b).E s1 Q) fun s Q => (ev C X c).T s fun k s1 => if k = true then (ev C X a).T s1 Q else (ev C X b).T s1 Q
  | .tup as => .of fun s Q => (ev C X as).A s fun rs s1 => ob2 (frozAll rs s1) fun xs s2 => xs.length ≤ line ∧ Q (.v (.d (.tup xs))) s2
  | .lst as => .of fun s Q => (ev C X as).A s fun rs s1 => ob2 (frozAll rs s1) fun xs s2 => xs.length ≤ line ∧ Q (.v (.l false xs)) s2
  | .idx a b => .of fun s Q => (ev C X a).E s fun ra s1 => (ev C X b).E s1 fun rb s2 => ob (view ra s2) fun x => ob (view rb s2) fun y => index x y fun z => Q (.v (.d z)) s2
  | .slc a lo hi => .of fun s Q => (ev C X a).E s fun ra s1 => (ev C X lo).O s1 fun l s2 => (ev C X hi).O s2 fun h s3 => ob (view ra s3) fun x => slice x l h fun z => Q (.v z) s3
  | .rv a => .of fun s Q => (ev C X a).E s fun ra s1 => ob (view ra s1) fun x => asL x fun xs => Q (.v (.l false xs.reverse)) s1
  | .call f as => .of fun s Q => (ev C X as).A s fun rs s1 => ob (args rs s1) fun os => sure (apart (lent rs s1)) (C f os fun res fin => backK s1 rs fin s1 fun s2 => Q (.v res) s2)
  | .blt b as => .of fun s Q => (ev C X as).A s fun rs s1 => ob (viewAll rs s1) fun xs => bltin b xs fun z => Q (.v z) s1
  | .isi a t => .of fun s Q => (ev C X a).E s fun ra s1 => ob (view ra s1) fun x => isTy x t fun z => Q (.v (.d (.bl z))) s1
  | .mth m o as => .of fun s Q => (ev C X o).E s fun ro s1 => ob (view ro s1) fun x0 => sure (recv m x0) ((ev C X as).A s1 fun rs s2 => ob (view ro s2) fun x => ob (viewAll rs s2) fun xs => meth m x xs fun z => Q (.v z) s2)
  | .chg m i as => .of fun s Q => ownL s i fun _ _ => (ev C X as).A s fun rs s1 => ob2 (frozAll rs s1) fun ds s2 => ownL s2 i fun p xs => muta m xs ds fun x ys => setK s2 i (some (.l p ys)) fun s3 => Q (.v (.d x)) s3
  | .srt a => .of fun s Q => (ev C X a).E s fun ra s1 => ob (view ra s1) fun x => asL x fun xs => SrtOk xs ∧ Q (.v (.l false (srtD xs))) s1
  | .srr a => .of fun s Q => (ev C X a).E s fun ra s1 => ob (view ra s1) fun x => asL x fun xs => SrtOk xs ∧ Q (.v (.l false (srtR xs))) s1
  | .fz a => .ofT (fun s Q => (ev C X a).E s fun ra s1 => ob2 (fzo ra s1) Q) fun _ _ => False
  | .comp own t k as c e => .of fun s Q => (ev C X as).A s fun rs s1 => ob (viewAll rs s1) fun ds => items k ds fun xs =>
      compL t own (lk rs s1) (ev C X c).T (ev C X e).E (ulk rs s1) Q xs [] (lk rs s1)
  | .clx f as => .of fun s Q => (ev C X as).A s fun rs s1 => ob (args rs s1) fun os => sure (apart (lent rs s1)) (C f os fun res fin => backK s1 rs fin s1 fun s2 => excTo res (fun c ds => X.ex c ds s2) (Q (.v res) s2))
  | .isx a cs => .of fun s Q => (ev C X a).E s fun ra s1 => ob (view ra s1) fun x => isXc X x cs fun z => Q (.v (.d (.bl z))) s1
  | .xat a f => .of fun s Q => (ev C X a).E s fun ra s1 => ob (view ra s1) fun x => atXc X x f fun z => Q (.v (.d z)) s1
  | .at_ h a => .of fun s Q => (ev C X a).E s fun r s1 => atR h r s1 Q
  | .cel h a => .ofT (fun s Q => (ev C X a).E s fun r s1 => celRK h r s1 Q) fun _ _ => False
  | .dnw h t => .of fun s Q => newCK h (if t = true then .dcT [] [] else .dcK [] []) s fun a s1 => Q (.v (.d (.ref a))) s1
  | .dn1 h t k v => .of fun s Q => (ev C X k).E s fun rk s1 => (ev C X v).E s1 fun rv s2 => ob2 (froz rk s2) fun x s3 => ob2 (froz rv s3) fun y s4 => dPut (if t = true then .dcT [] [] else .dcK [] []) x y fun z => newCK h z s4 fun a s5 => Q (.v (.d (.ref a))) s5
  | .chc h m o as => .of fun s Q => (ev C X o).E s fun ro s1 => isC ro h fun j => cellK h j s1 fun x0 => sure x0.isLst ((ev C X as).A s1 fun rs s2 => ob2 (frozAll rs s2) fun ds s3 => cellK h j s3 fun x => mutC m x ds fun z y => putCK h j y s3 fun s4 => Q (.v (.d z)) s4)
  | .clh x h f as => .of fun s Q => (ev C X as).A s fun rs s1 => ob (args rs s1) fun os => sure (apart (lent rs s1)) (regK h s1 fun M L => ∃ ns, ob (pick M ns) fun M1 => sure (apart ns) (C f (os ++ [.h M1 (pickL L 0 ns)]) fun res fin => lastH fin fun fin1 M2 =>
      listK (merge M ns M2) fun M3 => setK s1 h (some (.h M3 L)) fun s1' => backK s1 rs fin1 s1' fun s2 => match x with
        | true => excTo res (fun c ds => X.ex c ds s2) (Q (.v res) s2)
        | false => Q (.v res) s2))
  | .cmd h op a b => .ofT (fun s Q => (ev C X a).E s fun ra s1 => (ev C X b).E s1 fun rb s2 => deepR h ra s2 fun x => deepR h rb s2 fun y => cmpop op x y fun z => Q (.v (.d (.bl z))) s2)
      fun s Q => (ev C X a).E s fun ra s1 => (ev C X b).E s1 fun rb s2 => deepR h ra s2 fun x => deepR h rb s2 fun y => cmpop op x y fun z => Q z s2
def rS (C : Ct) : S → En → St → Prop
  | .skip, D, s => D.nx s
  | .seq a b, D, s => rS C a { D with nx := fun s1 => rS C b D s1 } s
  | .asg (.nm i) e, D, s => (ev C D.xc e).E s fun r s1 => ob2 (take r s1) fun o s2 => putK i o s2 fun s3 => D.nx s3
  | .asg t e, D, s => (ev C D.xc e).E s fun r s1 => ob2 (froz r s1) fun x s2 => setTgK t x s2 fun s3 => D.nx s3
  | .par i j a b, D, s => (ev C D.xc a).E s fun ra s1 => (ev C D.xc b).E s1 fun rb s2 => ob2 (take ra s2) fun x s3 => ob2 (take rb s3) fun y s4 => putK i x s4 fun s5 => putK j y s5 fun s6 => D.nx s6
  | .set o i e, D, s => (ev C D.xc e).E s fun r s1 => ownL s1 o fun _ _ => (ev C D.xc i).E s1 fun ri s2 => ob2 (froz r s2) fun x s3 => ob (view ri s3) fun k => asI k fun k => ownL s3 o fun b xs => ∃ j, L2.ixN xs.length k = some j ∧ setK s3 o (some (.l b (xs.set j x))) fun s4 => D.nx s4
  | .aug i op e, D, s => datL s i fun x => (ev C D.xc e).E s fun r s1 => ob (view r s1) fun y => iop op x y fun z => putK i z s1 fun s2 => D.nx s2
  | .augs o i op e, D, s => ownL s o fun _ _ => (ev C D.xc i).E s fun ri s1 => ob (view ri s1) fun k => asI k fun k => ownL s1 o fun p xs => ∃ x, L2.atI xs k = some x ∧
      (ev C D.xc e).E s1 fun r s2 => ob (view r s2) fun y => iop op x y fun z => asD z fun w => ownL s2 o fun p ys => ∃ j, L2.ixN ys.length k = some j ∧ setK s2 o (some (.l p (ys.set j w))) fun s3 => D.nx s3
  | .ex e, D, s => (ev C D.xc e).E s fun _ s1 => D.nx s1
  | .ite c a b, D, s => (ev C D.xc c).T s fun k s1 => if k = true then rS C a D s1 else rS C b D s1
  | .for_ t k as b, D, s => (ev C D.xc as).A s fun rs s1 => ob (viewAll rs s1) fun ds => items k ds fun xs => forL t (fun D s => normK s fun s => rS C b D s) (ulk rs s1) D xs (lk rs s1)
  | .while_ c b, D, s => ∃ W : Nat → St → Prop, (∃ m, W m s) ∧ ∀ m s, W m s → (ev C D.xc c).T s fun k s1 => if k = true then
      rS C b { D with nx := fun s2 => ∃ m', m' < m ∧ W m' s2, ct := fun s2 => ∃ m', m' < m ∧ W m' s2, bk := D.nx } s1 else D.nx s1
  | .ret e, D, s => (ev C D.xc e).E s D.rt
  | .retn, D, s => D.rt (.v (.d .non)) s
  | .brk, D, s => D.bk s
  | .cnt, D, s => D.ct s
  | .never, _, _ => False
  | .asgd i e, D, s => (ev C D.xc e).E s fun r s1 => ob2 (froz r s1) fun x s2 => putK i (.d x) s2 fun s3 => D.nx s3
  | .rse c as, D, s => (ev C D.xc as).A s fun rs s1 => ob (viewAll rs s1) fun xs => xs.all Itp.D.isScal = true ∧ xs.length = (xFl c).length ∧ D.ex c xs s1
  | .try_ b h e, D, s => rS C b { D with nx := fun s1 => rS C e D s1, ex := fun c ds s1 => rS C h { D with hx := some (c, ds) } s1 } s
  | .hnd cs i b r, D, s => match D.hx with
    | some (c, ds) => match cs.any (xsub c) with
      | true => match i with
        | none => rS C b D.su s
        | some i => ∀ a d, putN i (.d (.xcp a (xdd ds d) c ds)) s fun s1 => rS C b (D.suA i a c (xdd ds d)) s1
      | false => rS C r D s
    | none => False
  | .rer, D, s => match D.hx with
    | some (c, ds) => D.ex c ds s
    | none => False
  | .seth h o i e, D, s => (ev C D.xc e).E s fun r s1 => (ev C D.xc o).E s1 fun ro s2 => (ev C D.xc i).E s2 fun ri s3 => ob2 (froz r s3) fun v s4 => isC ro h fun j => ob (view ri s4) fun k => cellK h j s4 fun x => setC x k v fun y => putCK h j y s4 D.nx
  | .augh h o i op e, D, s => (ev C D.xc o).E s fun ro s1 => (ev C D.xc i).E s1 fun ri s2 => isC ro h fun j => ob (view ri s2) fun k => cellK h j s2 fun x => index x k fun z =>
      (ev C D.xc e).E s2 fun r s3 => ob (view r s3) fun y => iop op z y fun w => asD w fun wd => ob (view ri s3) fun k' => cellK h j s3 fun x' => setC x' k' wd fun x2 => putCK h j x2 s3 D.nx
  | .root h b, D, s => putN h (.h [] []) s fun s1 => rS C b { D with nx := fun s2 => setK s2 h none D.nx, rt := fun r s2 => retC h r fun r => setK s2 h none fun s3 => D.rt r s3, bk := fun _ => False, ct := fun _ => False, ex := fun c ds s2 => setK s2 h none fun s3 => D.ex c ds s3 } s1
  | .rgn h b, D, s => rS C b { D with nx := fun s1 => shrinkK h (lenH h s) s1 D.nx, rt := fun r s1 => retC h r fun r => shrinkK h (lenH h s) s1 fun s2 => D.rt r s2, bk := fun _ => False, ct := fun _ => False, ex := fun c ds s1 => shrinkK h (lenH h s) s1 fun s2 => D.ex c ds s2 } s
section
variable {C : Ct} (hC : CtMono C) {X : Xc}
include hC
theorem compL_imp {t : Tg} {own : List Nat} {s0 : St} {c c' : St → (Bool → St → Prop) → Prop} {e e' : St → (R → St → Prop) → Prop} {ul : St → St} {Q : R → St → Prop}
    (hc : ∀ s Q, c s Q → c' s Q) (he : ∀ s Q, e s Q → e' s Q) (mc : ∀ s Q Q', (∀ b s, Q b s → Q' b s) → c' s Q → c' s Q') (me : ∀ s Q Q', (∀ b s, Q b s → Q' b s) → e' s Q → e' s Q') :
    ∀ xs acc s, compL t own s0 c e ul Q xs acc s → compL t own s0 c' e' ul Q xs acc s
  | [], acc, s, w => by unfold compL at *; exact w
  | x :: xs, acc, s, w => by
    unfold compL at *
    obtain ⟨s1, e1, w⟩ := w
    refine ⟨s1, e1, mc _ _ _ (fun b s2 w => ?_) (hc _ _ w)⟩
    cases b with
    | true =>
      rw [if_pos rfl] at *
      refine me _ _ _ (fun r s3 w => ?_) (he _ _ w)
      obtain ⟨d, s4, e, l, w⟩ := w
      exact ⟨d, s4, e, l, compL_imp hc he mc me xs _ _ w⟩
    | false =>
      rw [if_neg Bool.false_ne_true] at *
      exact compL_imp hc he mc me xs _ _ w
theorem ev_of : ∀ e : E, (∀ s Q, (ev C X e).E s Q → wpE C X e s Q) ∧ (∀ s Q, (ev C X e).T s Q → wpT C X e s Q) ∧ (∀ s Q, (ev C X e).A s Q → wpA C X e s Q) ∧ (∀ s Q, (ev C X e).O s Q → wpO C X e s Q) := by
  have dT : ∀ e : E, (∀ s Q, (ev C X e).E s Q → wpE C X e s Q) → ∀ s (Q : Bool → St → Prop), ((ev C X e).E s fun r s1 => ob (view r s1) fun x => truth x fun k => Q k s1) → wpE C X e s fun r s1 => ∃ x, view r s1 = some x ∧ truth x fun k => Q k s1 :=
    fun e he s Q w => wpE_mono hC (he _ _ w) fun r s1 w => ob_ex w
  have dO : ∀ e : E, (∀ s Q, (ev C X e).E s Q → wpE C X e s Q) → ∀ s (Q : Option Int → St → Prop), ((ev C X e).E s fun r s1 => ob (view r s1) fun x => asI x fun i => Q (some i) s1) → wpE C X e s fun r s1 => ∃ i, view r s1 = some (.int i) ∧ Q (some i) s1 :=
    fun e he s Q w => wpE_mono hC (he _ _ w) fun r s1 w => by
      obtain ⟨x, e1, w⟩ := ob_ex w
      obtain ⟨i, rfl, w⟩ := asI_ex w
      exact ⟨i, e1, w⟩
  intro e
  induction e with
  | nil => exact ⟨fun _ _ w => w.elim, fun _ _ w => w.elim, fun _ _ w => by simp only [wpA]; exact w, fun _ _ w => w.elim⟩
  | nop => exact ⟨fun _ _ w => w.elim, fun _ _ w => by simp only [wpT]; exact w, fun _ _ w => w.elim, fun _ _ w => by simp only [wpO]; exact w⟩
  | cons a b iha ihb =>
    refine ⟨fun _ _ w => w.elim, fun _ _ w => w.elim, fun s Q w => ?_, fun _ _ w => w.elim⟩
    simp only [wpA]
    exact wpE_mono hC (iha.1 _ _ w) fun r s1 w => ihb.2.2.1 _ _ w
  | var i =>
    have he : ∀ s Q, (ev C X (.var i)).E s Q → wpE C X (.var i) s Q := fun s Q w => by
      simp only [wpE]
      have w : (match s[i]? with
        | some (some (.d x)) => Q (.v (.d x)) s
        | some (some (.l _ _)) => Q (.r i) s
        | some (some (.k _ _)) => Q (.r i) s
        | _ => False) := w
      cases q : s[i]? with
      | none => rw [q] at w; exact w.elim
      | some o => cases o with
        | none => rw [q] at w; exact w.elim
        | some o => rw [q] at w; cases o <;> first | exact w | exact (show False from w).elim
    exact ⟨he, fun s Q w => by simp only [wpT]; exact dT _ he s Q w, fun _ _ w => w.elim, fun s Q w => by simp only [wpO]; exact dO _ he s Q w⟩
  | cst x =>
    have he : ∀ s Q, (ev C X (.cst x)).E s Q → wpE C X (.cst x) s Q := fun s Q w => by simp only [wpE]; exact w
    refine ⟨he, fun s Q w => ?_, fun _ _ w => w.elim, fun s Q w => by simp only [wpO]; exact dO _ he s Q w⟩
    cases x <;> simp only [wpT] <;> first | exact w | exact dT _ he s Q w
  | bin op a b iha ihb =>
    have he : ∀ s Q, (ev C X (.bin op a b)).E s Q → wpE C X (.bin op a b) s Q := fun s Q w => by
      simp only [wpE]
      refine wpE_mono hC (iha.1 _ _ w) fun ra s1 w => wpE_mono hC (ihb.1 _ _ w) fun rb s2 w => ?_
      obtain ⟨x, e1, w⟩ := ob_ex w
      obtain ⟨y, e2, w⟩ := ob_ex w
      exact ⟨x, y, e1, e2, w⟩
    exact ⟨he, fun s Q w => by simp only [wpT]; exact dT _ he s Q w, fun _ _ w => w.elim, fun s Q w => by simp only [wpO]; exact dO _ he s Q w⟩
  | neg a iha =>
    have he : ∀ s Q, (ev C X (.neg a)).E s Q → wpE C X (.neg a) s Q := fun s Q w => by
      simp only [wpE]
      refine wpE_mono hC (iha.1 _ _ w) fun ra s1 w => ?_
      obtain ⟨x, e1, w⟩ := ob_ex w
      obtain ⟨i, rfl, w⟩ := asI_ex w
      exact ⟨i, e1, w⟩
    exact ⟨he, fun s Q w => by simp only [wpT]; exact dT _ he s Q w, fun _ _ w => w.elim, fun s Q w => by simp only [wpO]; exact dO _ he s Q w⟩
  | not_ a iha =>
    have he : ∀ s Q, (ev C X (.not_ a)).E s Q → wpE C X (.not_ a) s Q := fun s Q w => by
      simp only [wpE]
      refine wpE_mono hC (iha.1 _ _ w) fun ra s1 w => ?_
      obtain ⟨x, e1, w⟩ := ob_ex w
      obtain ⟨i, rfl, w⟩ := asB_ex w
      exact ⟨i, e1, w⟩
    exact ⟨he, fun s Q w => by simp only [wpT]; exact wpT_mono hC (iha.2.1 _ _ w) fun _ _ w => w, fun _ _ w => w.elim, fun s Q w => by simp only [wpO]; exact dO _ he s Q w⟩
  | cmp op a b iha ihb =>
    have he : ∀ s Q, (ev C X (.cmp op a b)).E s Q → wpE C X (.cmp op a b) s Q := fun s Q w => by
      simp only [wpE]
      refine wpE_mono hC (iha.1 _ _ w) fun ra s1 w => wpE_mono hC (ihb.1 _ _ w) fun rb s2 w => ?_
      obtain ⟨x, e1, w⟩ := ob_ex w
      obtain ⟨y, e2, w⟩ := ob_ex w
      exact ⟨x, y, e1, e2, w⟩
    refine ⟨he, fun s Q w => ?_, fun _ _ w => w.elim, fun s Q w => by simp only [wpO]; exact dO _ he s Q w⟩
    simp only [wpT]
    refine wpE_mono hC (iha.1 _ _ w) fun ra s1 w => wpE_mono hC (ihb.1 _ _ w) fun rb s2 w => ?_
    obtain ⟨x, e1, w⟩ := ob_ex w
    obtain ⟨y, e2, w⟩ := ob_ex w
    exact ⟨x, y, e1, e2, w⟩
  | chn o1 o2 a b c iha ihb ihc =>
    have he : ∀ s Q, (ev C X (.chn o1 o2 a b c)).E s Q → wpE C X (.chn o1 o2 a b c) s Q := fun s Q w => by
      simp only [wpE]
      refine wpE_mono hC (iha.1 _ _ w) fun ra s1 w => wpE_mono hC (ihb.1 _ _ w) fun rb s2 w => ?_
      obtain ⟨x, e1, w⟩ := ob_ex w
      obtain ⟨y, e2, w⟩ := ob_ex w
      refine ⟨x, y, e1, e2, cmpop_mono (fun z w => ?_) w⟩
      cases z with
      | false => exact w
      | true =>
        refine wpE_mono hC (ihc.1 _ _ w) fun rc s3 w => ?_
        obtain ⟨x, e1, w⟩ := ob_ex w
        obtain ⟨y, e2, w⟩ := ob_ex w
        exact ⟨x, y, e1, e2, w⟩
    refine ⟨he, fun s Q w => ?_, fun _ _ w => w.elim, fun s Q w => by simp only [wpO]; exact dO _ he s Q w⟩
    simp only [wpT]
    refine wpE_mono hC (iha.1 _ _ w) fun ra s1 w => wpE_mono hC (ihb.1 _ _ w) fun rb s2 w => ?_
    obtain ⟨x, e1, w⟩ := ob_ex w
    obtain ⟨y, e2, w⟩ := ob_ex w
    refine ⟨x, y, e1, e2, cmpop_mono (fun z w => ?_) w⟩
    cases z with
    | false => exact w
    | true =>
      refine wpE_mono hC (ihc.1 _ _ w) fun rc s3 w => ?_
      obtain ⟨x, e1, w⟩ := ob_ex w
      obtain ⟨y, e2, w⟩ := ob_ex w
      exact ⟨x, y, e1, e2, w⟩
  | and_ a b iha ihb =>
    have he : ∀ s Q, (ev C X (.and_ a b)).E s Q → wpE C X (.and_ a b) s Q := fun s Q w => by
      simp only [wpE]
      refine wpE_mono hC (iha.1 _ _ w) fun ra s1 w => ?_
      obtain ⟨x, e1, w⟩ := ob_ex w
      obtain ⟨i, rfl, w⟩ := asB_ex w
      refine ⟨i, e1, ?_⟩
      cases i with
      | false => exact w
      | true => exact ihb.1 _ _ w
    refine ⟨he, fun s Q w => ?_, fun _ _ w => w.elim, fun s Q w => by simp only [wpO]; exact dO _ he s Q w⟩
    simp only [wpT]
    refine wpT_mono hC (iha.2.1 _ _ w) fun c s1 w => ?_
    cases c with
    | false => exact w
    | true => exact ihb.2.1 _ _ w
  | or_ a b iha ihb =>
    have he : ∀ s Q, (ev C X (.or_ a b)).E s Q → wpE C X (.or_ a b) s Q := fun s Q w => by
      simp only [wpE]
      refine wpE_mono hC (iha.1 _ _ w) fun ra s1 w => ?_
      obtain ⟨x, e1, w⟩ := ob_ex w
      obtain ⟨i, rfl, w⟩ := asB_ex w
      refine ⟨i, e1, ?_⟩
      cases i with
      | true => exact w
      | false => exact ihb.1 _ _ w
    refine ⟨he, fun s Q w => ?_, fun _ _ w => w.elim, fun s Q w => by simp only [wpO]; exact dO _ he s Q w⟩
    simp only [wpT]
    refine wpT_mono hC (iha.2.1 _ _ w) fun c s1 w => ?_
    cases c with
    | true => exact w
    | false => exact ihb.2.1 _ _ w
  | ite c a b ihc iha ihb =>
    have he : ∀ s Q, (ev C X (.ite c a b)).E s Q → wpE C X (.ite c a b) s Q := fun s Q w => by
      simp only [wpE]
      refine wpT_mono hC (ihc.2.1 _ _ w) fun k s1 w => ?_
      cases k with
      | true => exact iha.1 _ _ w
      | false => exact ihb.1 _ _ w
    refine ⟨he, fun s Q w => ?_, fun _ _ w => w.elim, fun s Q w => by simp only [wpO]; exact dO _ he s Q w⟩
    simp only [wpT]
    refine wpT_mono hC (ihc.2.1 _ _ w) fun k s1 w => ?_
    cases k with
    | true => exact iha.2.1 _ _ w
    | false => exact ihb.2.1 _ _ w
  | tup as ih =>
    have he : ∀ s Q, (ev C X (.tup as)).E s Q → wpE C X (.tup as) s Q := fun s Q w => by
      simp only [wpE]
      refine wpA_mono hC (ih.2.2.1 _ _ w) fun rs s1 w => ?_
      obtain ⟨p, e1, w⟩ := ob2_ex w
      exact ⟨p.1, p.2, e1, w⟩
    exact ⟨he, fun s Q w => by simp only [wpT]; exact dT _ he s Q w, fun _ _ w => w.elim, fun s Q w => by simp only [wpO]; exact dO _ he s Q w⟩
  | lst as ih =>
    have he : ∀ s Q, (ev C X (.lst as)).E s Q → wpE C X (.lst as) s Q := fun s Q w => by
      simp only [wpE]
      refine wpA_mono hC (ih.2.2.1 _ _ w) fun rs s1 w => ?_
      obtain ⟨p, e1, w⟩ := ob2_ex w
      exact ⟨p.1, p.2, e1, w⟩
    exact ⟨he, fun s Q w => by simp only [wpT]; exact dT _ he s Q w, fun _ _ w => w.elim, fun s Q w => by simp only [wpO]; exact dO _ he s Q w⟩
  | idx a b iha ihb =>
    have he : ∀ s Q, (ev C X (.idx a b)).E s Q → wpE C X (.idx a b) s Q := fun s Q w => by
      simp only [wpE]
      refine wpE_mono hC (iha.1 _ _ w) fun ra s1 w => wpE_mono hC (ihb.1 _ _ w) fun rb s2 w => ?_
      obtain ⟨x, e1, w⟩ := ob_ex w
      obtain ⟨y, e2, w⟩ := ob_ex w
      exact ⟨x, y, e1, e2, w⟩
    exact ⟨he, fun s Q w => by simp only [wpT]; exact dT _ he s Q w, fun _ _ w => w.elim, fun s Q w => by simp only [wpO]; exact dO _ he s Q w⟩
  | slc a lo hi iha ihl ihh =>
    have he : ∀ s Q, (ev C X (.slc a lo hi)).E s Q → wpE C X (.slc a lo hi) s Q := fun s Q w => by
      simp only [wpE]
      exact wpE_mono hC (iha.1 _ _ w) fun ra s1 w => wpO_mono hC (ihl.2.2.2 _ _ w) fun l s2 w => wpO_mono hC (ihh.2.2.2 _ _ w) fun h s3 w => ob_ex w
    exact ⟨he, fun s Q w => by simp only [wpT]; exact dT _ he s Q w, fun _ _ w => w.elim, fun s Q w => by simp only [wpO]; exact dO _ he s Q w⟩
  | rv a iha =>
    have he : ∀ s Q, (ev C X (.rv a)).E s Q → wpE C X (.rv a) s Q := fun s Q w => by
      simp only [wpE]
      refine wpE_mono hC (iha.1 _ _ w) fun ra s1 w => ?_
      obtain ⟨x, e1, w⟩ := ob_ex w
      obtain ⟨i, rfl, w⟩ := asL_ex w
      exact ⟨i, e1, w⟩
    exact ⟨he, fun s Q w => by simp only [wpT]; exact dT _ he s Q w, fun _ _ w => w.elim, fun s Q w => by simp only [wpO]; exact dO _ he s Q w⟩
  | call f as ih =>
    have he : ∀ s Q, (ev C X (.call f as)).E s Q → wpE C X (.call f as) s Q := fun s Q w => by
      simp only [wpE]
      refine wpA_mono hC (ih.2.2.1 _ _ w) fun rs s1 w => ?_
      obtain ⟨os, e1, w⟩ := ob_ex w
      obtain ⟨nd, w⟩ := sure_ex w
      exact ⟨os, e1, apart_nd nd, hC _ _ _ _ (fun r l w => backK_ex w) w⟩
    exact ⟨he, fun s Q w => by simp only [wpT]; exact dT _ he s Q w, fun _ _ w => w.elim, fun s Q w => by simp only [wpO]; exact dO _ he s Q w⟩
  | blt b as ih =>
    have he : ∀ s Q, (ev C X (.blt b as)).E s Q → wpE C X (.blt b as) s Q := fun s Q w => by
      simp only [wpE]
      exact wpA_mono hC (ih.2.2.1 _ _ w) fun rs s1 w => ob_ex w
    exact ⟨he, fun s Q w => by simp only [wpT]; exact dT _ he s Q w, fun _ _ w => w.elim, fun s Q w => by simp only [wpO]; exact dO _ he s Q w⟩
  | isi a t iha =>
    have he : ∀ s Q, (ev C X (.isi a t)).E s Q → wpE C X (.isi a t) s Q := fun s Q w => by
      simp only [wpE]
      exact wpE_mono hC (iha.1 _ _ w) fun ra s1 w => ob_ex w
    exact ⟨he, fun s Q w => by simp only [wpT]; exact dT _ he s Q w, fun _ _ w => w.elim, fun s Q w => by simp only [wpO]; exact dO _ he s Q w⟩
  | mth m o as iho ih =>
    have he : ∀ s Q, (ev C X (.mth m o as)).E s Q → wpE C X (.mth m o as) s Q := fun s Q w => by
      simp only [wpE]
      refine wpE_mono hC (iho.1 _ _ w) fun ro s1 w => ?_
      obtain ⟨x0, e0, w⟩ := ob_ex w
      obtain ⟨rc, w⟩ := sure_ex w
      refine ⟨x0, e0, rc, wpA_mono hC (ih.2.2.1 _ _ w) fun rs s2 w => ?_⟩
      obtain ⟨x, e1, w⟩ := ob_ex w
      obtain ⟨y, e2, w⟩ := ob_ex w
      exact ⟨x, y, e1, e2, w⟩
    exact ⟨he, fun s Q w => by simp only [wpT]; exact dT _ he s Q w, fun _ _ w => w.elim, fun s Q w => by simp only [wpO]; exact dO _ he s Q w⟩
  | chg m i as ih =>
    have he : ∀ s Q, (ev C X (.chg m i as)).E s Q → wpE C X (.chg m i as) s Q := fun s Q w => by
      simp only [wpE]
      obtain ⟨p, xs, e1, w⟩ := ownL_ex w
      refine ⟨⟨p, xs, e1⟩, wpA_mono hC (ih.2.2.1 _ _ w) fun rs s1 w => ?_⟩
      obtain ⟨d, e2, w⟩ := ob2_ex w
      obtain ⟨p, xs, e3, w⟩ := ownL_ex w
      exact ⟨d.1, d.2, e2, p, xs, e3, muta_mono (fun x ys w => by rw [setK_eq] at w; exact w) w⟩
    exact ⟨he, fun s Q w => by simp only [wpT]; exact dT _ he s Q w, fun _ _ w => w.elim, fun s Q w => by simp only [wpO]; exact dO _ he s Q w⟩
  | srt a iha =>
    have he : ∀ s Q, (ev C X (.srt a)).E s Q → wpE C X (.srt a) s Q := fun s Q w => by
      simp only [wpE]
      refine wpE_mono hC (iha.1 _ _ w) fun ra s1 w => ?_
      obtain ⟨x, e1, w⟩ := ob_ex w
      obtain ⟨i, rfl, w⟩ := asL_ex w
      exact ⟨i, e1, w⟩
    exact ⟨he, fun s Q w => by simp only [wpT]; exact dT _ he s Q w, fun _ _ w => w.elim, fun s Q w => by simp only [wpO]; exact dO _ he s Q w⟩
  | srr a iha =>
    have he : ∀ s Q, (ev C X (.srr a)).E s Q → wpE C X (.srr a) s Q := fun s Q w => by
      simp only [wpE]
      refine wpE_mono hC (iha.1 _ _ w) fun ra s1 w => ?_
      obtain ⟨x, e1, w⟩ := ob_ex w
      obtain ⟨i, rfl, w⟩ := asL_ex w
      exact ⟨i, e1, w⟩
    exact ⟨he, fun s Q w => by simp only [wpT]; exact dT _ he s Q w, fun _ _ w => w.elim, fun s Q w => by simp only [wpO]; exact dO _ he s Q w⟩
  | fz a iha =>
    have he : ∀ s Q, (ev C X (.fz a)).E s Q → wpE C X (.fz a) s Q := fun s Q w => by
      simp only [wpE]
      refine wpE_mono hC (iha.1 _ _ w) fun ra s1 w => ?_
      obtain ⟨p, e1, w⟩ := ob2_ex w
      exact ⟨p.1, p.2, e1, w⟩
    exact ⟨he, fun s Q w => w.elim, fun _ _ w => w.elim, fun s Q w => by simp only [wpO]; exact dO _ he s Q w⟩
  | comp own t k as c e iha ihc ihe =>
    have he : ∀ s Q, (ev C X (.comp own t k as c e)).E s Q → wpE C X (.comp own t k as c e) s Q := fun s Q w => by
      simp only [wpE]
      refine wpA_mono hC (iha.2.2.1 _ _ w) fun rs s1 w => ?_
      obtain ⟨ds, e1, w⟩ := ob_ex w
      exact ⟨ds, e1, items_mono (fun xs w => compL_imp (hC := hC) ihc.2.1 ihe.1 (fun s Q Q' h w => wpT_mono hC w h) (fun s Q Q' h w => wpE_mono hC w h) _ _ _ w) w⟩
    exact ⟨he, fun s Q w => by simp only [wpT]; exact dT _ he s Q w, fun _ _ w => w.elim, fun s Q w => by simp only [wpO]; exact dO _ he s Q w⟩
  | clx f as ih =>
    have he : ∀ s Q, (ev C X (.clx f as)).E s Q → wpE C X (.clx f as) s Q := fun s Q w => by
      simp only [wpE]
      refine wpA_mono hC (ih.2.2.1 _ _ w) fun rs s1 w => ?_
      obtain ⟨os, e1, w⟩ := ob_ex w
      obtain ⟨e2, w⟩ := sure_ex w
      exact ⟨os, e1, apart_nd e2, hC _ _ _ _ (fun res fin w => backK_ex w) w⟩
    exact ⟨he, fun s Q w => by simp only [wpT]; exact dT _ he s Q w, fun _ _ w => w.elim, fun s Q w => by simp only [wpO]; exact dO _ he s Q w⟩
  | isx a cs iha =>
    have he : ∀ s Q, (ev C X (.isx a cs)).E s Q → wpE C X (.isx a cs) s Q := fun s Q w => by
      simp only [wpE]
      exact wpE_mono hC (iha.1 _ _ w) fun ra s1 w => ob_ex w
    exact ⟨he, fun s Q w => by simp only [wpT]; exact dT _ he s Q w, fun _ _ w => w.elim, fun s Q w => by simp only [wpO]; exact dO _ he s Q w⟩
  | xat a f iha =>
    have he : ∀ s Q, (ev C X (.xat a f)).E s Q → wpE C X (.xat a f) s Q := fun s Q w => by
      simp only [wpE]
      exact wpE_mono hC (iha.1 _ _ w) fun ra s1 w => ob_ex w
    exact ⟨he, fun s Q w => by simp only [wpT]; exact dT _ he s Q w, fun _ _ w => w.elim, fun s Q w => by simp only [wpO]; exact dO _ he s Q w⟩
  | at_ i a iha =>
    have he : ∀ s Q, (ev C X (.at_ i a)).E s Q → wpE C X (.at_ i a) s Q := fun s Q w => by
      simp only [wpE]
      exact wpE_mono hC (iha.1 _ _ w) fun r s1 w => w
    exact ⟨he, fun s Q w => by simp only [wpT]; exact dT _ he s Q w, fun _ _ w => w.elim, fun s Q w => by simp only [wpO]; exact dO _ he s Q w⟩
  | cel i a iha =>
    have he : ∀ s Q, (ev C X (.cel i a)).E s Q → wpE C X (.cel i a) s Q := fun s Q w => by
      simp only [wpE]
      exact wpE_mono hC (iha.1 _ _ w) fun r s1 w => celRK_ex w
    exact ⟨he, fun _ _ w => w.elim, fun _ _ w => w.elim, fun s Q w => by simp only [wpO]; exact dO _ he s Q w⟩
  | dnw i t =>
    have he : ∀ s Q, (ev C X (.dnw i t)).E s Q → wpE C X (.dnw i t) s Q := fun s Q w => by
      simp only [wpE]
      exact newCK_ex w
    exact ⟨he, fun s Q w => by simp only [wpT]; exact dT _ he s Q w, fun _ _ w => w.elim, fun s Q w => by simp only [wpO]; exact dO _ he s Q w⟩
  | dn1 i t k v ihk ihv =>
    have he : ∀ s Q, (ev C X (.dn1 i t k v)).E s Q → wpE C X (.dn1 i t k v) s Q := fun s Q w => by
      simp only [wpE]
      refine wpE_mono hC (ihk.1 _ _ w) fun rk s1 w => wpE_mono hC (ihv.1 _ _ w) fun rv s2 w => ?_
      obtain ⟨p, e1, w⟩ := ob2_ex w
      obtain ⟨p2, e2, w⟩ := ob2_ex w
      exact ⟨p.1, p.2, e1, p2.1, p2.2, e2, dPut_mono (fun z w => newCK_ex w) w⟩
    exact ⟨he, fun s Q w => by simp only [wpT]; exact dT _ he s Q w, fun _ _ w => w.elim, fun s Q w => by simp only [wpO]; exact dO _ he s Q w⟩
  | chc i m o as iho ih =>
    have he : ∀ s Q, (ev C X (.chc i m o as)).E s Q → wpE C X (.chc i m o as) s Q := fun s Q w => by
      simp only [wpE]
      refine wpE_mono hC (iho.1 _ _ w) fun ro s1 w => isC_mono (fun j w => cellK_mono (fun x0 w => ?_) w) w
      obtain ⟨il, w⟩ := sure_ex w
      refine ⟨il, wpA_mono hC (ih.2.2.1 _ _ w) fun rs s2 w => ?_⟩
      obtain ⟨p, e1, w⟩ := ob2_ex w
      exact ⟨p.1, p.2, e1, cellK_mono (fun x w => mutC_mono (fun z y w => putCK_ex w) w) w⟩
    exact ⟨he, fun s Q w => by simp only [wpT]; exact dT _ he s Q w, fun _ _ w => w.elim, fun s Q w => by simp only [wpO]; exact dO _ he s Q w⟩
  | clh x i f as ih =>
    have he : ∀ s Q, (ev C X (.clh x i f as)).E s Q → wpE C X (.clh x i f as) s Q := fun s Q w => by
      simp only [wpE]
      refine wpA_mono hC (ih.2.2.1 _ _ w) fun rs s1 w => ?_
      obtain ⟨os, e1, w⟩ := ob_ex w
      obtain ⟨e2, w⟩ := sure_ex w
      refine ⟨os, e1, apart_nd e2, regK_mono (fun M L w => ?_) w⟩
      obtain ⟨ns, w⟩ := w
      obtain ⟨M1, e3, w⟩ := ob_ex w
      obtain ⟨e4, w⟩ := sure_ex w
      refine ⟨ns, M1, e3, apart_nd e4, hC _ _ _ _ (fun res fin w => lastH_mono (fun fin1 M2 w => ?_) w) w⟩
      rw [listK_eq, setK_eq] at w
      obtain ⟨s2, e5, w⟩ := backK_ex w
      refine ⟨s2, e5, ?_⟩
      cases x <;> exact w
    exact ⟨he, fun s Q w => by simp only [wpT]; exact dT _ he s Q w, fun _ _ w => w.elim, fun s Q w => by simp only [wpO]; exact dO _ he s Q w⟩
  | cmd i op a b iha ihb =>
    have he : ∀ s Q, (ev C X (.cmd i op a b)).E s Q → wpE C X (.cmd i op a b) s Q := fun s Q w => by
      simp only [wpE]
      exact wpE_mono hC (iha.1 _ _ w) fun ra s1 w => wpE_mono hC (ihb.1 _ _ w) fun rb s2 w => w
    exact ⟨he, fun s Q w => by simp only [wpT]; exact wpE_mono hC (iha.1 _ _ w) fun ra s1 w => wpE_mono hC (ihb.1 _ _ w) fun rb s2 w => w, fun _ _ w => w.elim, fun s Q w => by simp only [wpO]; exact dO _ he s Q w⟩
theorem forL_imp {t : Tg} {b b' : En → St → Prop} {ul : St → St} (hb : ∀ D s, b D s → b' D s) (mb : ∀ D D' s, En.Le D D' → b' D s → b' D' s) {D : En} : ∀ xs s, forL t b ul D xs s → forL t b' ul D xs s
  | [], s, w => by simp only [forL] at w ⊢; exact w
  | x :: xs, s, w => by
    simp only [forL] at w ⊢
    obtain ⟨s1, e, w⟩ := w
    refine ⟨s1, e, ?_⟩
    refine mb _ _ _ ?_ (hb _ _ w)
    exact ⟨fun _ q => forL_imp hb mb xs _ q, fun _ _ q => q, fun _ q => q, fun _ q => forL_imp hb mb xs _ q, fun _ _ _ q => q, rfl, rfl⟩
theorem rS_of : ∀ (b : S) (D : En) (s : St), rS C b D s → wpS C b D s := by
  intro b
  induction b with
  | skip => intro D s w; simp only [wpS]; exact w
  | seq a b iha ihb =>
    intro D s w
    simp only [wpS]
    refine wpS_mono hC a _ _ _ ?_ (iha _ _ w)
    exact ⟨fun s1 w => ihb _ _ w, fun _ _ w => w, fun _ w => w, fun _ w => w, fun _ _ _ w => w, rfl, rfl⟩
  | asg t e =>
    intro D s w
    cases t with
    | nm i =>
      simp only [wpS]
      refine wpE_mono hC ((ev_of hC e).1 _ _ w) fun r s1 w => ?_
      obtain ⟨p, e1, w⟩ := ob2_ex w
      obtain ⟨q, e2, w⟩ := putK_ex w
      exact ⟨p.1, p.2, q, e1, e2, w⟩
    | _ =>
      simp only [wpS]
      refine wpE_mono hC ((ev_of hC e).1 _ _ w) fun r s1 w => ?_
      obtain ⟨p, e1, w⟩ := ob2_ex w
      obtain ⟨q, e2, w⟩ := setTgK_ex w
      exact ⟨p.1, p.2, q, e1, e2, w⟩
  | par i j a b =>
    intro D s w
    simp only [wpS]
    refine wpE_mono hC ((ev_of hC a).1 _ _ w) fun ra s1 w => wpE_mono hC ((ev_of hC b).1 _ _ w) fun rb s2 w => ?_
    obtain ⟨p, e1, w⟩ := ob2_ex w
    obtain ⟨q, e2, w⟩ := ob2_ex w
    obtain ⟨s5, e3, w⟩ := putK_ex w
    obtain ⟨s6, e4, w⟩ := putK_ex w
    exact ⟨p.1, q.1, p.2, q.2, e1, e2, s5, s6, e3, e4, w⟩
  | set o i e =>
    intro D s w
    simp only [wpS]
    refine wpE_mono hC ((ev_of hC e).1 _ _ w) fun r s1 w => ?_
    obtain ⟨p, xs, e1, w⟩ := ownL_ex w
    refine ⟨⟨p, xs, e1⟩, wpE_mono hC ((ev_of hC i).1 _ _ w) fun ri s2 w => ?_⟩
    obtain ⟨p, e2, w⟩ := ob2_ex w
    obtain ⟨k, e3, w⟩ := ob_ex w
    obtain ⟨k, rfl, w⟩ := asI_ex w
    obtain ⟨b, xs, e4, j, e5, w⟩ := ownL_ex w
    rw [setK_eq] at w
    exact ⟨p.1, p.2, e2, k, b, xs, j, e3, e4, e5, w⟩
  | aug i op e =>
    intro D s w
    simp only [wpS]
    obtain ⟨x, e1, w⟩ := datL_ex w
    refine ⟨x, e1, wpE_mono hC ((ev_of hC e).1 _ _ w) fun r s1 w => ?_⟩
    obtain ⟨y, e2, w⟩ := ob_ex w
    exact ⟨y, e2, iop_mono (fun z w => putK_ex w) w⟩
  | augs o i op e =>
    intro D s w
    simp only [wpS]
    obtain ⟨p, xs, e1, w⟩ := ownL_ex w
    refine ⟨⟨p, xs, e1⟩, wpE_mono hC ((ev_of hC i).1 _ _ w) fun ri s1 w => ?_⟩
    obtain ⟨k, e2, w⟩ := ob_ex w
    obtain ⟨k, rfl, w⟩ := asI_ex w
    obtain ⟨p, xs, e3, x, e4, w⟩ := ownL_ex w
    refine ⟨k, p, xs, x, e2, e3, e4, wpE_mono hC ((ev_of hC e).1 _ _ w) fun r s2 w => ?_⟩
    obtain ⟨y, e5, w⟩ := ob_ex w
    refine ⟨y, e5, iop_mono (fun z w => ?_) w⟩
    obtain ⟨w', rfl, w⟩ := asD_ex w
    obtain ⟨p2, ys, e6, j, e7, w⟩ := ownL_ex w
    rw [setK_eq] at w
    exact ⟨w', p2, ys, j, rfl, e6, e7, w⟩
  | ex e => intro D s w; simp only [wpS]; exact (ev_of hC e).1 _ _ w
  | ite c a b iha ihb =>
    intro D s w
    simp only [wpS]
    refine wpT_mono hC ((ev_of hC c).2.1 _ _ w) fun k s1 w => ?_
    cases k with
    | true => exact iha _ _ w
    | false => exact ihb _ _ w
  | for_ t k as b ih =>
    intro D s w
    simp only [wpS]
    refine wpA_mono hC ((ev_of hC as).2.2.1 _ _ w) fun rs s1 w => ?_
    obtain ⟨ds, e1, w⟩ := ob_ex w
    exact ⟨ds, e1, items_mono (fun xs w => forL_imp (hC := hC) (fun D s q => ih D s (by rw [normK_eq] at q; exact q)) (fun D D' s h w => wpS_mono hC b _ _ _ h w) _ _ w) w⟩
  | while_ c b ih =>
    intro D s w
    simp only [wpS]
    obtain ⟨W, h0, h⟩ := w
    refine ⟨W, h0, fun m s q => wpT_mono hC ((ev_of hC c).2.1 _ _ (h m s q)) fun k s1 w => ?_⟩
    cases k with
    | true => exact ih _ _ w
    | false => exact w
  | ret e => intro D s w; simp only [wpS]; exact (ev_of hC e).1 _ _ w
  | retn => intro D s w; simp only [wpS]; exact w
  | brk => intro D s w; simp only [wpS]; exact w
  | cnt => intro D s w; simp only [wpS]; exact w
  | never => intro D s w; simp only [wpS]; exact w
  | rse c as =>
    intro D s w
    simp only [wpS]
    exact wpA_mono hC ((ev_of hC as).2.2.1 _ _ w) fun rs s1 w => ob_ex w
  | try_ b g e ihb ihg ihe =>
    intro D s w
    simp only [wpS]
    refine wpS_mono hC b _ _ _ ?_ (ihb _ _ w)
    exact ⟨fun s1 w => ihe _ _ w, fun _ _ w => w, fun _ w => w, fun _ w => w, fun c ds s1 w => ihg _ _ w, rfl, rfl⟩
  | hnd cs i b r ihb ihr =>
    intro D s w
    simp only [wpS]
    simp only [rS] at w
    generalize hD : D.hx = o at w ⊢
    cases o with
    | none => exact w
    | some p =>
      obtain ⟨c, ds⟩ := p
      simp only at w ⊢
      cases z : cs.any (xsub c) with
      | true =>
        rw [z] at w
        rw [if_pos rfl]
        cases i with
        | none => exact ihb _ _ w
        | some i =>
          intro a d
          exact putN_mono (fun s1 w => ihb _ _ w) (w a d)
      | false =>
        rw [z] at w
        rw [if_neg Bool.false_ne_true]
        exact ihr _ _ w
  | rer => intro D s w; simp only [wpS]; exact w
  | seth i o k e =>
    intro D s w
    simp only [wpS]
    refine wpE_mono hC ((ev_of hC e).1 _ _ w) fun r s1 w => wpE_mono hC ((ev_of hC o).1 _ _ w) fun ro s2 w => wpE_mono hC ((ev_of hC k).1 _ _ w) fun ri s3 w => ?_
    obtain ⟨p, e1, w⟩ := ob2_ex w
    refine ⟨p.1, p.2, e1, isC_mono (fun j w => ?_) w⟩
    obtain ⟨kk, e2, w⟩ := ob_ex w
    exact ⟨kk, e2, cellK_mono (fun x w => setC_mono (fun y w => putCK_ex w) w) w⟩
  | augh i o k op e =>
    intro D s w
    simp only [wpS]
    refine wpE_mono hC ((ev_of hC o).1 _ _ w) fun ro s1 w => wpE_mono hC ((ev_of hC k).1 _ _ w) fun ri s2 w => isC_mono (fun j w => ?_) w
    obtain ⟨kk, e2, w⟩ := ob_ex w
    refine ⟨kk, e2, cellK_mono (fun x w => index_mono (fun z w => wpE_mono hC ((ev_of hC e).1 _ _ w) fun r s3 w => ?_) w) w⟩
    obtain ⟨y, e3, w⟩ := ob_ex w
    refine ⟨y, e3, iop_mono (fun z w => ?_) w⟩
    obtain ⟨wd, e4, w⟩ := asD_ex w
    obtain ⟨k', e5, w⟩ := ob_ex w
    exact ⟨wd, e4, k', e5, cellK_mono (fun x w => setC_mono (fun y w => putCK_ex w) w) w⟩
  | root i b ih =>
    intro D s w
    simp only [wpS]
    refine putN_mono (fun s1 w => wpS_mono hC b _ _ _ ?_ (ih _ _ w)) w
    exact ⟨fun s q => by dsimp only at q ⊢; rwa [setK_eq] at q, fun r s q => by dsimp only at q ⊢; exact retC_mono (fun r q => by rwa [setK_eq] at q) q, fun _ q => q, fun _ q => q, fun c ds s q => by dsimp only at q ⊢; rwa [setK_eq] at q, rfl, rfl⟩
  | rgn i b ih =>
    intro D s w
    simp only [wpS]
    refine wpS_mono hC b _ _ _ ?_ (ih _ _ w)
    exact ⟨fun s q => shrinkK_ex q, fun r s q => by dsimp only at q ⊢; exact retC_mono (fun r q => shrinkK_ex q) q, fun _ q => q, fun _ q => q, fun c ds s q => shrinkK_ex q, rfl, rfl⟩
  | asgd i e =>
    intro D s w
    simp only [wpS]
    refine wpE_mono hC ((ev_of hC e).1 _ _ w) fun r s1 w => ?_
    obtain ⟨p, e1, w⟩ := ob2_ex w
    obtain ⟨q, e2, w⟩ := putK_ex w
    exact ⟨p.1, p.2, q, e1, e2, w⟩
end
def rEnds (np : Nat) (Q : O → List (Option O) → Prop) : En where
  nx := fun s => Q (.d .non) (s.take np)
  rt := fun r s => ob2 (leave r s) fun o s2 => Q o (s2.take np)
theorem run_call {T : Tab} {k : Nat} {f : Str} {os : List O} {Q : O → List (Option O) → Prop} {np nn : Nat} {b : S} (h : T f = some ⟨np, nn, b, false⟩) (l : os.length = np) (w : normK (os.map some ++ List.replicate (nn - np) none) fun s => rS (call T k) b (rEnds np Q) s) : call T (k + 1) f os Q := by
  rw [normK_eq] at w
  refine ⟨_, h, l, wpS_mono (call_mono T k) b _ _ _ ?_ (rS_of (call_mono T k) b _ _ w)⟩
  refine ⟨fun s q => q, fun r s q => ?_, fun s q => q, fun s q => q, fun _ _ _ q => q.elim, rfl, rfl⟩
  obtain ⟨p, e, q⟩ := ob2_ex q
  exact ⟨p.1, p.2, e, (fun z => by cases z), q⟩
/-- the ends of a def that may raise -/
def rEndsX (np : Nat) (Q : O → List (Option O) → Prop) : En where
  nx := fun s => Q (.d .non) (s.take np)
  rt := fun r s => ob2 (leave r s) fun o s2 => excOf o = none ∧ Q o (s2.take np)
  ex := fun c ds s => Q (excO c ds) (s.take np)
theorem run_callX {T : Tab} {k : Nat} {f : Str} {os : List O} {Q : O → List (Option O) → Prop} {np nn : Nat} {b : S} (h : T f = some ⟨np, nn, b, true⟩) (l : os.length = np) (w : normK (os.map some ++ List.replicate (nn - np) none) fun s => rS (call T k) b (rEndsX np Q) s) : call T (k + 1) f os Q := by
  rw [normK_eq] at w
  refine ⟨_, h, l, wpS_mono (call_mono T k) b _ _ _ ?_ (rS_of (call_mono T k) b _ _ w)⟩
  refine ⟨fun s q => q, fun r s q => ?_, fun s q => q, fun s q => q, fun _ _ _ q => ⟨rfl, q⟩, rfl, rfl⟩
  obtain ⟨p, e, x, q⟩ := ob2_ex q
  exact ⟨p.1, p.2, e, fun _ => x, q⟩
end Itp

/-! Draw: the drawing layer of every law. -/
namespace Itp
open PySem
def handB : S := .ret (.lst (.cons (.blt .list (.cons (.slc (.var 0) .nop (.cst (.int 63))) .nil)) (.cons (.cst (.int 0)) (.cons (.cst (.int 0)) (.cons (.cst (.int 0)) (.cons (.cst (.int 20011)) (.cons (.cst (.int 40009)) .nil)))))))
def stepB : S := .seq (.set 0 (.cst (.int 4)) (.bin .Mod (.bin .Mult (.idx (.var 0) (.cst (.int 4))) (.cst (.int 48271))) (.cst (.int 2147483647)))) (.seq (.set 0 (.cst (.int 5)) (.bin .Mod (.bin .Mult (.idx (.var 0) (.cst (.int 5))) (.cst (.int 40692))) (.cst (.int 2147483399)))) (.ret (.bin .Add (.idx (.var 0) (.cst (.int 4))) (.idx (.var 0) (.cst (.int 5))))))
def takeB : S := .seq (.asg (.nm 1) (.cst (.int 0))) (.seq (.ite (.cmp .Lt (.idx (.var 0) (.cst (.int 1))) (.blt .len (.cons (.idx (.var 0) (.cst (.int 0))) .nil))) (.asg (.nm 1) (.blt .abs (.cons (.idx (.idx (.var 0) (.cst (.int 0))) (.idx (.var 0) (.cst (.int 1)))) .nil))) .skip) (.seq (.augs 0 (.cst (.int 1)) .Add (.cst (.int 1))) (.seq (.ite (.cmp .GtE (.var 1) (.bin .Pow (.cst (.int 10)) (.cst (.int 18)))) (.set 0 (.cst (.int 2)) (.var 1)) (.set 0 (.cst (.int 3)) (.cst (.int 7)))) (.seq (.set 0 (.cst (.int 4)) (.bin .Add (.bin .Mod (.bin .Add (.idx (.var 0) (.cst (.int 4))) (.bin .Mod (.var 1) (.cst (.int 2147483587)))) (.cst (.int 2147483646))) (.cst (.int 1)))) (.seq (.set 0 (.cst (.int 5)) (.bin .Add (.bin .Mod (.bin .Add (.bin .Mult (.idx (.var 0) (.cst (.int 5))) (.cst (.int 3))) (.bin .Mod (.var 1) (.cst (.int 1000003)))) (.cst (.int 2147483398))) (.cst (.int 1)))) (.seq (.ex (.call "_law_step" (.cons (.var 0) .nil))) (.ex (.call "_law_step" (.cons (.var 0) .nil)))))))))
def drawB : S := .seq (.ite (.and_ (.cmp .Eq (.idx (.var 0) (.cst (.int 2))) (.cst (.int 0))) (.cmp .Eq (.idx (.var 0) (.cst (.int 3))) (.cst (.int 0)))) (.ex (.call "_law_take" (.cons (.var 0) .nil))) .skip) (.seq (.ite (.cmp .Gt (.idx (.var 0) (.cst (.int 2))) (.cst (.int 0))) (.seq (.asg (.nm 2) (.bin .Mod (.idx (.var 0) (.cst (.int 2))) (.var 1))) (.seq (.set 0 (.cst (.int 2)) (.bin .FloorDiv (.idx (.var 0) (.cst (.int 2))) (.var 1))) (.ret (.var 2)))) .skip) (.seq (.augs 0 (.cst (.int 3)) .Sub (.cst (.int 1))) (.seq (.asg (.nm 3) (.call "_law_step" (.cons (.var 0) .nil))) (.seq (.asg (.nm 4) (.cst (.int 4294967296))) (.seq (.while_ (.cmp .Lt (.var 4) (.var 1)) (.seq (.asg (.nm 3) (.bin .Add (.bin .Mult (.var 3) (.cst (.int 4294967296))) (.call "_law_step" (.cons (.var 0) .nil)))) (.asg (.nm 4) (.bin .Mult (.var 4) (.cst (.int 4294967296)))))) (.ret (.bin .Mod (.var 3) (.var 1))))))))
/-- the drawing layer stands in the table -/
structure DrawT (T : Tab) : Prop where
  hand : T "_law_hand" = some ⟨1, 1, handB, false⟩
  step : T "_law_step" = some ⟨1, 1, stepB, false⟩
  take : T "_law_take" = some ⟨1, 2, takeB, false⟩
  draw : T "_law_draw" = some ⟨2, 5, drawB, false⟩
def hand (ns : List Int) (p c r s1 s2 : Int) : List D := [.lst (ns.map .int), .int p, .int c, .int r, .int s1, .int s2]
/-- a hand -/
def Hand (h : List D) : Prop := ∃ ns p c r s1 s2, h = hand ns p c r s1 s2 ∧ 0 ≤ p ∧ 0 ≤ c ∧ 0 ≤ r
theorem if_b {b : Bool} {A B : Prop} (h1 : b = true → A) (h2 : b = false → B) : if b = true then A else B := by
  cases b with
  | true => exact h1 rfl
  | false => exact h2 rfl
theorem if_d {P : Prop} [Decidable P] {A B : Prop} (h1 : P → A) (h2 : ¬ P → B) : if decide P = true then A else B := if_b (fun e => h1 (of_decide_eq_true e)) fun e => h2 (of_decide_eq_false e)
theorem if_nd {P : Prop} [Decidable P] {A B : Prop} (h1 : ¬ P → A) (h2 : P → B) : if (!decide P) = true then A else B := if_b (fun e => h1 (by simpa using e)) fun e => h2 (by simpa using e)
def SpStep (C : Ct) : Prop := ∀ ns p c r s1 s2 Q, (∀ v s1' s2', 0 ≤ v → Q (.d (.int v)) [some (.l true (hand ns p c r s1' s2'))]) → C "_law_step" [.l true (hand ns p c r s1 s2)] Q
theorem step_ok {T : Tab} (t : DrawT T) (k : Nat) : SpStep (call T (k + 1)) := by
  intro ns p c r s1 s2 Q h
  refine run_call t.step rfl ?_
  refine ⟨_, rfl, .inr (.inl (by decide)), by decide, _, rfl, _, rfl, .inr (.inl (by decide)), by decide, _, rfl, _, rfl, _, rfl, h _ _ _ ?_⟩
  have h1 := Int.emod_nonneg (s1 * 48271) (b := 2147483647) (by decide)
  have h2 := Int.emod_nonneg (s2 * 40692) (b := 2147483399) (by decide)
  exact Int.add_nonneg h1 h2
theorem atI_map {ns : List Int} {p : Int} (h0 : 0 ≤ p) (h1 : p < ns.length) : ∃ z, L2.atI (ns.map D.int) p = some (.int z) := by
  obtain ⟨n, rfl⟩ := Int.eq_ofNat_of_zero_le h0
  have hn : n < ns.length := by omega
  exact ⟨ns[n], L2.atI_nat (by rw [List.getElem?_map, List.getElem?_eq_getElem hn]; rfl)⟩
theorem eqv_int (a b : Int) : PyData.eqv (D.int a).py (D.int b).py = decide (a = b) := by
  simp only [D.py, PyData.eqv]
  by_cases h : a = b
  · rw [decide_eq_true h]; simpa using h
  · rw [decide_eq_false h]; simpa using h
theorem if_eqi {a b : Int} {A B : Prop} (h1 : a = b → A) (h2 : a ≠ b → B) : if PyData.eqv (D.int a).py (D.int b).py = true then A else B := by
  rw [eqv_int]; exact if_d h1 h2
theorem if_nei {a b : Int} {A B : Prop} (h1 : a ≠ b → A) (h2 : a = b → B) : if (!PyData.eqv (D.int a).py (D.int b).py) = true then A else B := by
  rw [eqv_int]; exact if_nd h1 h2
def SpTake (C : Ct) : Prop := ∀ ns p s1 s2 Q, 0 ≤ p → (∀ p' c' r' s1' s2', 0 ≤ p' → 0 ≤ c' → 0 ≤ r' → (0 < c' ∨ 0 < r') → Q (.d .non) [some (.l true (hand ns p' c' r' s1' s2'))]) → C "_law_take" [.l true (hand ns p 0 0 s1 s2)] Q
theorem take_ok1 {T : Tab} (t : DrawT T) (k : Nat) : SpTake (call T (k + 2)) := by
  intro ns p s1 s2 Q hp h
  have st := step_ok t k
  refine run_call t.take rfl ?_
  -- the two steps at the end
  have last : ∀ p' c' r' s1' s2' cell, 0 ≤ p' → 0 ≤ c' → 0 ≤ r' → (0 < c' ∨ 0 < r') → rS (call T (k + 1)) (.seq (.set 0 (.cst (.int 4)) (.bin .Add (.bin .Mod (.bin .Add (.idx (.var 0) (.cst (.int 4))) (.bin .Mod (.var 1) (.cst (.int 2147483587)))) (.cst (.int 2147483646))) (.cst (.int 1)))) (.seq (.set 0 (.cst (.int 5)) (.bin .Add (.bin .Mod (.bin .Add (.bin .Mult (.idx (.var 0) (.cst (.int 5))) (.cst (.int 3))) (.bin .Mod (.var 1) (.cst (.int 1000003)))) (.cst (.int 2147483398))) (.cst (.int 1)))) (.seq (.ex (.call "_law_step" (.cons (.var 0) .nil))) (.ex (.call "_law_step" (.cons (.var 0) .nil))))))
      (rEnds 1 Q) [some (.l true (hand ns p' c' r' s1' s2')), some (.d (.int cell))] := by
    intro p' c' r' s1' s2' cell h1 h2 h3 h4
    refine ⟨_, rfl, by decide, by decide, _, rfl, _, rfl, .inr (.inl (by decide)), by decide, by decide, _, rfl, ?_⟩
    refine st _ _ _ _ _ _ _ fun v a b hv => ?_
    refine st _ _ _ _ _ _ _ fun v a b hv => ?_
    exact h _ _ _ _ _ h1 h2 h3 h4
  have mid : ∀ cell : Int, 0 ≤ cell → rS (call T (k + 1)) (.seq (.augs 0 (.cst (.int 1)) .Add (.cst (.int 1))) (.seq (.ite (.cmp .GtE (.var 1) (.bin .Pow (.cst (.int 10)) (.cst (.int 18)))) (.set 0 (.cst (.int 2)) (.var 1)) (.set 0 (.cst (.int 3)) (.cst (.int 7)))) (.seq (.set 0 (.cst (.int 4)) (.bin .Add (.bin .Mod (.bin .Add (.idx (.var 0) (.cst (.int 4))) (.bin .Mod (.var 1) (.cst (.int 2147483587)))) (.cst (.int 2147483646))) (.cst (.int 1)))) (.seq (.set 0 (.cst (.int 5)) (.bin .Add (.bin .Mod (.bin .Add (.bin .Mult (.idx (.var 0) (.cst (.int 5))) (.cst (.int 3))) (.bin .Mod (.var 1) (.cst (.int 1000003)))) (.cst (.int 2147483398))) (.cst (.int 1)))) (.seq (.ex (.call "_law_step" (.cons (.var 0) .nil))) (.ex (.call "_law_step" (.cons (.var 0) .nil))))))))
      (rEnds 1 Q) [some (.l true (hand ns p 0 0 s1 s2)), some (.d (.int cell))] := by
    intro cell hc
    refine ⟨_, rfl, _, rfl, ⟨by decide, by decide, by decide⟩, ?_⟩
    refine if_d (fun hge => ?_) fun hlt => ?_
    · refine ⟨_, rfl, ?_⟩
      show rS _ _ _ _
      refine last (p + 1) cell 0 s1 s2 cell (by omega) hc (by decide) (.inl ?_)
      have : (10 : Int) ^ (18 : Int).toNat = 1000000000000000000 := by decide
      omega
    · refine ⟨_, rfl, ?_⟩
      show rS _ _ _ _
      exact last (p + 1) 0 7 s1 s2 cell (by omega) (by decide) (by decide) (.inr (by decide))
  refine ⟨_, rfl, _, rfl, ?_⟩
  refine if_d (fun hlt => ?_) fun hge => ?_
  · have hl : p < ns.length := by simpa using hlt
    obtain ⟨z, hz⟩ := atI_map hp hl
    refine ⟨_, rfl, _, rfl, _, hz, ?_⟩
    show rS _ _ _ _
    refine mid _ ?_
    split <;> omega
  · show rS _ _ _ _
    exact mid 0 (by decide)
theorem take_ok2 {T : Tab} (t : DrawT T) {k : Nat} (h : 2 ≤ k) : SpTake (call T k) := by
  obtain ⟨j, rfl⟩ := Nat.exists_eq_add_of_le h
  rw [Nat.add_comm]
  exact take_ok1 t j
def SpDraw (C : Ct) : Prop := ∀ h n Q, Hand h → 0 < n → n.natAbs < 2 ^ 8000 → (∀ v h', Hand h' → 0 ≤ v → v < n → Q (.d (.int v)) [some (.l true h'), some (.d (.int n))]) → C "_law_draw" [.l true h, .d (.int n)] Q
theorem draw_ok1 {T : Tab} (t : DrawT T) (k : Nat) : SpDraw (call T (k + 3)) := by
  intro h n Q hh hn hb hq
  obtain ⟨ns, p, c, r, s1, s2, rfl, hp, hc, hr⟩ := hh
  have st := step_ok t (k + 1)
  have tk := take_ok1 t k
  refine run_call t.draw rfl ?_
  have tail : ∀ p c r s1 s2 : Int, 0 ≤ p → 0 ≤ c → 0 ≤ r → (0 < c ∨ 0 < r) → rS (call T (k + 2)) (.seq (.ite (.cmp .Gt (.idx (.var 0) (.cst (.int 2))) (.cst (.int 0))) (.seq (.asg (.nm 2) (.bin .Mod (.idx (.var 0) (.cst (.int 2))) (.var 1))) (.seq (.set 0 (.cst (.int 2)) (.bin .FloorDiv (.idx (.var 0) (.cst (.int 2))) (.var 1))) (.ret (.var 2)))) .skip) (.seq (.augs 0 (.cst (.int 3)) .Sub (.cst (.int 1))) (.seq (.asg (.nm 3) (.call "_law_step" (.cons (.var 0) .nil))) (.seq (.asg (.nm 4) (.cst (.int 4294967296))) (.seq (.while_ (.cmp .Lt (.var 4) (.var 1)) (.seq (.asg (.nm 3) (.bin .Add (.bin .Mult (.var 3) (.cst (.int 4294967296))) (.call "_law_step" (.cons (.var 0) .nil)))) (.asg (.nm 4) (.bin .Mult (.var 4) (.cst (.int 4294967296)))))) (.ret (.bin .Mod (.var 3) (.var 1))))))))
      (rEnds 2 Q) [some (.l true (hand ns p c r s1 s2)), some (.d (.int n)), none, none, none] := by
    intro p c r s1 s2 hp hc hr hcr
    refine ⟨_, rfl, ?_⟩
    refine if_d (fun hg => ?_) fun hg => ?_
    · refine ⟨_, rfl, hn, _, rfl, ⟨hn, hb⟩, _, rfl, ?_⟩
      exact hq _ _ ⟨ns, p, c / n, r, s1, s2, rfl, hp, Int.ediv_nonneg hc (Int.le_of_lt hn), hr⟩ (Int.emod_nonneg _ (by omega)) (Int.emod_lt_of_pos _ hn)
    · have hr1 : 0 < r := by omega
      refine ⟨_, rfl, _, rfl, ?_⟩
      refine st _ _ _ _ _ _ _ fun v a b hv => ?_
      refine ⟨fun m s => ∃ (sz v a b : Int), m = (n - sz).toNat ∧ 0 < sz ∧ s = [some (.l true (hand ns p c (r - 1) a b)), some (.d (.int n)), none, some (.d (.int v)), some (.d (.int sz))], ⟨_, 4294967296, v, a, b, rfl, by decide, rfl⟩, ?_⟩
      rintro m s ⟨sz, v, a, b, rfl, hsz, rfl⟩
      refine if_d (fun hlt => ?_) fun hge => ?_
      · refine ⟨.inr (.inl (by decide)), ?_⟩
        refine st _ _ _ _ _ _ _ fun v' a' b' hv' => ?_
        refine ⟨.inr (.inl (by decide)), _, ?_, sz * 4294967296, _, a', b', rfl, by omega, rfl⟩
        omega
      · refine ⟨hn, ?_⟩
        exact hq _ _ ⟨ns, p, c, r - 1, a, b, rfl, hp, hc, by omega⟩ (Int.emod_nonneg _ (by omega)) (Int.emod_lt_of_pos _ hn)
  refine ⟨_, rfl, ?_⟩
  refine if_d (fun e1 => ?_) fun e1 => ?_
  · refine ⟨_, rfl, ?_⟩
    refine if_d (fun e2 => ?_) fun e2 => ?_
    · subst e1 e2
      refine tk _ _ _ _ _ hp fun p' c' r' a b h1 h2 h3 h4 => ?_
      show rS _ _ _ _
      exact tail p' c' r' a b h1 h2 h3 h4
    · show rS _ _ _ _
      exact tail p c r s1 s2 hp hc hr (by omega)
  · show rS _ _ _ _
    exact tail p c r s1 s2 hp hc hr (by omega)
theorem draw_ok {T : Tab} (t : DrawT T) {k : Nat} (h : 3 ≤ k) : SpDraw (call T k) := by
  obtain ⟨j, rfl⟩ := Nat.exists_eq_add_of_le h
  rw [Nat.add_comm]
  exact draw_ok1 t j
/-- the hand at the law's start -/
theorem hand_ok {T : Tab} (t : DrawT T) {k : Nat} (hk : 1 ≤ k) (ns : List Int) (Q : O → List (Option O) → Prop) (h : ∀ hd, Hand hd → Q (.l false hd) [some (.d (.frz (ns.map .int)))]) : call T k "_law_hand" [.d (.frz (ns.map .int))] Q := by
  obtain ⟨j, rfl⟩ := Nat.exists_eq_add_of_le hk
  rw [Nat.add_comm]
  refine run_call t.hand rfl ?_
  refine ⟨Nat.le_of_ble_eq_true rfl, ?_⟩
  refine h _ ?_
  refine ⟨cut ns none (some 63), 0, 0, 0, 20011, 40009, ?_, by decide, by decide, by decide⟩
  simp only [hand, cut, List.map_take, List.map_drop, List.length_map]
end Itp

/-! Lib: loops by an invariant; equality of data; texts. -/
namespace Itp
open PySem
theorem lvl {P : Nat → Prop} (d : Nat) (h : ∀ j, P (j + d)) (k : Nat) (hk : d ≤ k) : P k := by
  obtain ⟨j, rfl⟩ := Nat.exists_eq_add_of_le hk
  rw [Nat.add_comm]
  exact h j
theorem forL_inv {t : Tg} {body : En → St → Prop} {ul : St → St} {E : En} (xs : List D) (I : Nat → St → Prop)
    (step : ∀ i x s (N : St → Prop), (∀ s', I (i + 1) s' → N s') → xs[i]? = some x → I i s → ∃ s1, setTg t x s = some s1 ∧ body { nx := N, ct := N, bk := fun s2 => E.nx (ul s2), rt := fun r s2 => E.rt r (ul s2), ex := fun c ds s2 => E.ex c ds (ul s2), cur := E.cur } s1)
    (fin : ∀ s, I xs.length s → E.nx (ul s)) (s : St) (h : I 0 s) : forL t body ul E xs s := by
  have go : ∀ (b a : List D) (s : St), xs = a ++ b → I a.length s → forL t body ul E b s := by
    intro b
    induction b with
    | nil =>
      intro a s e h
      rw [List.append_nil] at e
      subst e
      simp only [forL]
      exact fin s h
    | cons x b ih =>
      intro a s e h
      simp only [forL]
      refine step a.length x s _ (fun s' h' => ?_) (by rw [e]; simp) h
      exact ih (a ++ [x]) s' (by rw [e]; simp) (by simpa using h')
  exact go xs [] s rfl h
theorem compL_inv {t : Tg} {own : List Nat} {s0 : St} {cond : St → (Bool → St → Prop) → Prop} {elt : St → (R → St → Prop) → Prop} {ul : St → St} {Q : R → St → Prop} (xs : List D) (I : Nat → List D → St → Prop)
    (step : ∀ i x acc s (N : List D → St → Prop), (∀ acc' s', I (i + 1) acc' s' → N acc' s') → xs[i]? = some x → I i acc s → ∃ s1, setTg t x (wipe s own) = some s1 ∧ cond s1 fun b s2 =>
      if b = true then elt s2 fun r s3 => ∃ d s4, froz r s3 = some (d, s4) ∧ acc.length < line ∧ N (acc ++ [d]) (mend s0 s4 own) else N acc (mend s0 s2 own))
    (fin : ∀ acc s, I xs.length acc s → Q (.v (.l false acc)) (ul s)) (s : St) (h : I 0 [] s) : compL t own s0 cond elt ul Q xs [] s := by
  have go : ∀ (b a : List D) (acc : List D) (s : St), xs = a ++ b → I a.length acc s → compL t own s0 cond elt ul Q b acc s := by
    intro b
    induction b with
    | nil =>
      intro a acc s e h
      rw [List.append_nil] at e
      subst e
      simp only [compL]
      exact fin acc s h
    | cons x b ih =>
      intro a acc s e h
      simp only [compL]
      refine step a.length x acc s _ (fun acc' s' h' => ?_) (by rw [e]; simp) h
      exact ih (a ++ [x]) acc' s' (by rw [e]; simp) (by simpa using h')
  exact go xs [] [] s rfl h
theorem eqv_self {x : D} (h : x.ok) : PyData.eqv x.py x.py = true := PySem.SeqAt.eqv_refl _ (SeqAt.canLay_of_shaped h.2)
theorem pyAll_map (xs : List D) : D.pyAll xs = xs.map D.py := by
  induction xs with
  | nil => rfl
  | cons x xs ih => simp [D.pyAll, ih]
theorem plainAll_of {xs : List D} (h : ∀ x ∈ xs, x.plain = true) : D.plainAll xs = true := by
  induction xs with
  | nil => rfl
  | cons x xs ih => rw [D.plainAll, h x List.mem_cons_self, ih fun y hy => h y (List.mem_cons_of_mem _ hy)]; rfl
theorem layAll_of {xs : List D} (h : ∀ x ∈ xs, x.py.canLay0 = true) : PyData.canLayAll0 (D.pyAll xs) = true := by
  induction xs with
  | nil => rfl
  | cons x xs ih => rw [D.pyAll, PyData.canLayAll0, h x List.mem_cons_self, ih fun y hy => h y (List.mem_cons_of_mem _ hy)]; rfl
theorem depthAll_of {xs : List D} {n : Nat} (h : ∀ x ∈ xs, x.py.depth ≤ n) : PyData.depthAll (D.pyAll xs) ≤ n := by
  induction xs with
  | nil => exact Nat.zero_le _
  | cons x xs ih =>
    rw [D.pyAll, PyData.depthAll]
    exact Nat.max_le.mpr ⟨h x List.mem_cons_self, ih fun y hy => h y (List.mem_cons_of_mem _ hy)⟩
theorem ok_lst {xs : List D} {n : Nat} (hn : n < 64) (h : ∀ x ∈ xs, x.plain = true ∧ x.py.canLay0 = true ∧ x.py.depth ≤ n) : (D.lst xs).ok := by
  refine ⟨?_, ?_⟩
  · rw [D.plain]; exact plainAll_of fun x hx => (h x hx).1
  · unfold SeqAt.shaped
    rw [D.py, PyData.canLay0, PyData.depth, layAll_of fun x hx => (h x hx).2.1, Bool.true_and, decide_eq_true_eq]
    have := depthAll_of fun x hx => (h x hx).2.2
    omega
theorem ok_tup {xs : List D} {n : Nat} (hn : n < 64) (h : ∀ x ∈ xs, x.plain = true ∧ x.py.canLay0 = true ∧ x.py.depth ≤ n) : (D.tup xs).ok := by
  refine ⟨?_, ?_⟩
  · rw [D.plain]; exact plainAll_of fun x hx => (h x hx).1
  · unfold SeqAt.shaped
    rw [D.py, PyData.canLay0, PyData.depth, layAll_of fun x hx => (h x hx).2.1, Bool.true_and, decide_eq_true_eq]
    have := depthAll_of fun x hx => (h x hx).2.2
    omega
theorem sIx_nat' {n d k : Nat} (h : k ≤ n) : HT.sIx n d (some (k : Int)) = k := by rw [HT.sIx_nat]; omega
/-- cuts at whole numbers -/
theorem cut_from {α : Type} {xs : List α} {k : Nat} (h : k ≤ xs.length) : cut xs (some (k : Int)) none = xs.drop k := by
  unfold cut
  rw [sIx_nat' h, HT.sIx_none]
  exact List.take_of_length_le (by simp)
theorem cut_to {α : Type} {xs : List α} {k : Nat} (h : k ≤ xs.length) : cut xs none (some (k : Int)) = xs.take k := by
  unfold cut
  rw [sIx_nat' h, HT.sIx_none]
  simp
theorem cutS_eq (l : List Nat) (lo hi : Option Int) : L2.cutS ⟨l.toArray⟩ lo hi = ⟨(cut l lo hi).toArray⟩ := by
  unfold L2.cutS cut
  rfl
theorem atI_at {α : Type} {xs : List α} {k : Nat} {x : α} (h : xs[k]? = some x) : L2.atI xs (k : Int) = some x := L2.atI_nat h
theorem ixN_at {n j : Nat} (h : j < n) : L2.ixN n (j : Int) = some j := by
  unfold L2.ixN
  rw [if_pos (by omega), if_pos (by omega)]
  simp
/-- a slot that may be written -/
def fr (o : Option O) : Prop := o = none ∨ (∃ x, o = some (.d x)) ∨ ∃ xs, o = some (.l false xs)
theorem fr.n : fr none := .inl rfl
theorem fr.x {x : D} : fr (some (.d x)) := .inr (.inl ⟨x, rfl⟩)
theorem fr.o {xs : List D} : fr (some (.l false xs)) := .inr (.inr ⟨xs, rfl⟩)
theorem put_fr {s : St} {i : Nat} {o : Option O} {x : O} (h : s[i]? = some o) (f : fr o) : put i x s = some (s.set i (some x)) := by
  unfold put
  rcases f with rfl | ⟨y, rfl⟩ | ⟨y, rfl⟩ <;> rw [h]
theorem putK_of {s : St} {i : Nat} {o : Option O} {x : O} {K : St → Prop} (h : s[i]? = some o) (f : fr o) (q : setK s i (some x) K) : putK i x s K := by
  unfold putK
  rcases f with rfl | ⟨y, rfl⟩ | ⟨y, rfl⟩ <;> rw [h] <;> exact q
theorem ob_of {α : Type} {o : Option α} {x : α} {f : α → Prop} (h : o = some x) (q : f x) : ob o f := by rw [h]; exact q
theorem ob_asB {o : Option D} {b : Bool} {f : Bool → Prop} (h : o = some (.bl b)) (q : f b) : ob o fun x => asB x f := by rw [h]; exact q
theorem eqv_t {x : D} (h : x.ok) {A B : Prop} (a : A) : if PyData.eqv x.py x.py = true then A else B := by rw [eqv_self h, if_pos rfl]; exact a
theorem small {n : Int} (h0 : 0 < n) (h : n ≤ 10 ^ 70) : n.natAbs < 2 ^ 8000 := by
  have h1 : n.natAbs ≤ 10 ^ 70 := by
    have : ((10 : Int) ^ 70) = ((10 ^ 70 : Nat) : Int) := by decide +kernel
    omega
  refine Nat.lt_of_le_of_lt h1 (Nat.lt_of_lt_of_le (show 10 ^ 70 < 2 ^ 240 by decide +kernel) (Nat.pow_le_pow_right (by decide) (by decide)))
theorem ok_str {l : List Nat} (h : ∀ c ∈ l, c < 1114112) : (D.str ⟨l.toArray⟩).ok := by
  refine ⟨rfl, ?_⟩
  unfold SeqAt.shaped
  rw [D.py, PyData.canLay0, PyData.depth]
  simp [PyData.strOk]
  exact h
theorem join_chars : ∀ l : List Nat, Txt.join "" (l.map fun c => (⟨#[c]⟩ : Str)) = ⟨l.toArray⟩ := by
  intro l
  rw [TL.join_eq]
  induction l with
  | nil => rfl
  | cons c l ih =>
    cases l with
    | nil => rfl
    | cons d l =>
      have e : Str.join "" (((c :: d :: l).map fun c => (⟨#[c]⟩ : Str))) = (⟨#[c]⟩ : Str) ++ "" ++ Str.join "" ((d :: l).map fun c => (⟨#[c]⟩ : Str)) := rfl
      rw [e, ih]
      show (⟨#[c] ++ #[] ++ (d :: l).toArray⟩ : Str) = ⟨(c :: d :: l).toArray⟩
      congr 1
      simp
end Itp

namespace Itp
open PySem
def B_mark : S := .ret (.bin .FloorDiv (.bin .Add (.var 0) (.var 1)) (.cst (.int 2)))
def B_is_number : S := .ret (.and_ (.isi (.var 0) "int") (.not_ (.isi (.var 0) "bool")))
def B_gap_at : S := .seq (.for_ (.tp (.cons (.nm 2) (.cons (.tp (.cons (.nm 3) (.cons (.nm 4) .nil))) .nil))) .enum (.cons (.idx (.var 0) (.cst (.int 1))) .nil) (.ite (.chn .Lt .Lt (.var 3) (.var 1) (.var 4)) (.ret (.var 2)) .skip)) (.ret (.cst .non))
def B_tells : S := .seq (.asg (.tp (.cons (.nm 2) (.cons (.nm 3) .nil))) (.var 0)) (.seq (.for_ (.tp (.cons (.nm 4) (.cons (.tp (.cons (.nm 5) (.cons (.nm 6) .nil))) .nil))) .enum (.cons (.var 3) .nil) (.ite (.cmp .LtE (.var 1) (.call "mark" (.cons (.fz (.var 5)) (.cons (.fz (.var 6)) .nil)))) (.ret (.idx (.var 2) (.var 4))) .skip)) (.ret (.idx (.var 2) (.neg (.cst (.int 1))))))
def B_is_name : S := .seq (.ite (.or_ (.not_ (.isi (.var 0) "str")) (.not_ (.chn .LtE .LtE (.cst (.int 1)) (.blt .len (.cons (.var 0) .nil)) (.cst (.int 8))))) (.ret (.cst (.bl false))) .skip) (.ret (.blt .all (.cons (.comp [1] (.nm 1) .plain (.cons (.var 0) .nil) .nop (.chn .LtE .LtE (.cst (.str "a")) (.var 1) (.cst (.str "z")))) .nil)))
def B_stretches : S := .seq (.asg (.nm 1) (.lst .nil)) (.seq (.for_ (.tp (.cons (.nm 2) (.cons (.nm 3) .nil))) .plain (.cons (.srt (.var 0)) .nil) (.ite (.and_ (.cmp .NotEq (.var 1) (.lst .nil)) (.cmp .Eq (.idx (.idx (.var 1) (.neg (.cst (.int 1)))) (.cst (.int 2))) (.var 3))) (.seq (.asg (.nm 4) (.idx (.chg .pop 1 .nil) (.cst (.int 0)))) (.ex (.chg .append 1 (.cons (.tup (.cons (.var 4) (.cons (.var 2) (.cons (.var 3) .nil)))) .nil)))) (.ex (.chg .append 1 (.cons (.tup (.cons (.var 2) (.cons (.var 2) (.cons (.var 3) .nil)))) .nil))))) (.ret (.var 1)))
def B_l_names : S := .seq (.asg (.nm 2) (.cst (.str "abcdefghijklmnopqrstuvwxyz"))) (.seq (.asg (.nm 3) (.comp [7] (.nm 7) .range (.cons (.bin .Add (.cst (.int 1)) (.call "_law_draw" (.cons (.var 0) (.cons (.cst (.int 8)) .nil)))) .nil) .nop (.idx (.var 2) (.call "_law_draw" (.cons (.var 0) (.cons (.cst (.int 26)) .nil)))))) (.seq (.asg (.nm 4) (.call "_law_draw" (.cons (.var 0) (.cons (.fz (.blt .len (.cons (.var 3) .nil))) .nil)))) (.seq (.asg (.nm 5) (.call "_law_draw" (.cons (.var 0) (.cons (.cst (.int 26)) .nil)))) (.seq (.asg (.nm 6) (.lst .nil)) (.seq (.for_ (.nm 7) .range (.cons (.var 1) .nil) (.seq (.set 3 (.var 4) (.idx (.var 2) (.bin .Mod (.bin .Add (.var 5) (.bin .Mult (.cst (.int 5)) (.var 7))) (.cst (.int 26))))) (.ex (.chg .append 6 (.cons (.mth .join (.cst (.str "")) (.cons (.var 3) .nil)) .nil))))) (.seq (.ite (.and_ (.cmp .GtE (.blt .len (.cons (.var 3) .nil)) (.var 1)) (.cmp .Eq (.call "_law_draw" (.cons (.var 0) (.cons (.cst (.int 3)) .nil))) (.cst (.int 0)))) (.ret (.comp [7] (.nm 7) .range (.cons (.var 1) .nil) .nop (.slc (.idx (.var 6) (.cst (.int 0))) .nop (.bin .Add (.var 7) (.cst (.int 1)))))) .skip) (.ret (.var 6))))))))
def B_l_shuffled : S := .seq (.asg (.nm 2) (.blt .list (.cons (.var 1) .nil))) (.seq (.asg (.nm 3) (.lst .nil)) (.seq (.while_ (.cmp .NotEq (.var 2) (.lst .nil)) (.ex (.chg .append 3 (.cons (.chg .pop 2 (.cons (.call "_law_draw" (.cons (.var 0) (.cons (.fz (.blt .len (.cons (.var 2) .nil))) .nil))) .nil)) .nil)))) (.ret (.var 3))))
def B_l_cases : S := .seq (.asgd 2 (.call "_law_names" (.cons (.var 0) (.cons (.fz (.idx (.lst (.cons (.cst (.int 2)) (.cons (.cst (.int 3)) (.cons (.cst (.int 4)) (.cons (.cst (.int 2)) (.cons (.cst (.int 1)) .nil)))))) (.call "_law_draw" (.cons (.var 0) (.cons (.cst (.int 5)) .nil))))) .nil)))) (.seq (.asg (.nm 3) (.idx (.lst (.cons (.cst (.int 2)) (.cons (.cst (.int 4)) (.cons (.cst (.int 12)) (.cons (.bin .Pow (.cst (.int 10)) (.cst (.int 9))) (.cons (.bin .Mult (.cst (.int 3)) (.bin .Pow (.cst (.int 10)) (.cst (.int 58)))) .nil)))))) (.call "_law_draw" (.cons (.var 0) (.cons (.cst (.int 5)) .nil))))) (.seq (.asg (.nm 4) (.bin .Sub (.bin .Add (.bin .Mult (.cst (.int 2)) (.bin .Pow (.cst (.int 10)) (.cst (.int 60)))) (.cst (.int 1))) (.bin .Mult (.var 1) (.var 3)))) (.seq (.asgd 5 (.lst (.cons (.cst (.int 0)) (.cons (.var 4) (.cons (.call "_law_draw" (.cons (.var 0) (.cons (.fz (.bin .Add (.var 4) (.cst (.int 1)))) .nil))) (.cons (.blt .min (.cons (.var 4) (.cons (.bin .Sub (.bin .Pow (.cst (.int 10)) (.cst (.int 60))) (.call "_law_draw" (.cons (.var 0) (.cons (.cst (.int 50)) .nil)))) .nil))) .nil)))))) (.seq (.asg (.nm 6) (.bin .Sub (.bin .Sub (.idx (.var 5) (.call "_law_draw" (.cons (.var 0) (.cons (.cst (.int 4)) .nil)))) (.bin .Pow (.cst (.int 10)) (.cst (.int 60)))) (.cst (.int 1)))) (.seq (.asg (.nm 7) (.lst .nil)) (.seq (.asg (.nm 8) (.idx (.var 2) (.cst (.int 0)))) (.seq (.for_ (.nm 9) .range (.cons (.bin .Add (.cst (.int 1)) (.call "_law_draw" (.cons (.var 0) (.cons (.fz (.var 1)) .nil)))) .nil) (.seq (.aug 6 .Add (.bin .Add (.cst (.int 1)) (.call "_law_draw" (.cons (.var 0) (.cons (.fz (.var 3)) .nil))))) (.seq (.asgd 10 (.comp [11] (.nm 11) .plain (.cons (.var 2) .nil) (.cmp .NotEq (.var 11) (.var 8)) (.var 11))) (.seq (.ite (.and_ (.cmp .NotEq (.var 10) (.lst .nil)) (.cmp .Eq (.call "_law_draw" (.cons (.var 0) (.cons (.cst (.int 2)) .nil))) (.cst (.int 0)))) (.asg (.nm 8) (.idx (.var 10) (.call "_law_draw" (.cons (.var 0) (.cons (.fz (.blt .len (.cons (.var 10) .nil))) .nil))))) .skip) (.ex (.chg .append 7 (.cons (.tup (.cons (.var 6) (.cons (.var 8) .nil))) .nil))))))) (.ret (.var 7)))))))))
def B_borders : S := .seq (.asgd 1 (.call "stretches" (.cons (.fz (.var 0)) .nil))) (.ret (.comp [2, 3] (.tp (.cons (.nm 2) (.cons (.nm 3) .nil))) .zip (.cons (.var 1) (.cons (.slc (.var 1) (.cst (.int 1)) .nop) .nil)) .nop (.tup (.cons (.idx (.var 2) (.cst (.int 1))) (.cons (.idx (.var 3) (.cst (.int 0))) .nil)))))
def B_form_of : S := .ret (.tup (.cons (.blt .tuple (.cons (.comp [1, 2, 3] (.tp (.cons (.nm 1) (.cons (.nm 2) (.cons (.nm 3) .nil)))) .plain (.cons (.call "stretches" (.cons (.fz (.var 0)) .nil)) .nil) .nop (.var 3)) .nil)) (.cons (.blt .tuple (.cons (.call "borders" (.cons (.fz (.var 0)) .nil)) .nil)) .nil)))
def B_is_place : S := .ret (.and_ (.call "is_number" (.cons (.fz (.var 0)) .nil)) (.chn .LtE .LtE (.neg (.cst (.int 1000000000000000000000000000000000000000000000000000000000000))) (.var 0) (.cst (.int 1000000000000000000000000000000000000000000000000000000000000))))
def B_with_gap : S := .seq (.asg (.tp (.cons (.nm 3) (.cons (.nm 4) .nil))) (.var 0)) (.ret (.tup (.cons (.var 3) (.cons (.bin .Add (.bin .Add (.slc (.var 4) .nop (.var 1)) (.tup (.cons (.var 2) .nil))) (.slc (.var 4) (.bin .Add (.var 1) (.cst (.int 1))) .nop)) .nil))))
def B_is_case : S := .ret (.and_ (.isi (.var 0) "tuple") (.and_ (.cmp .Eq (.blt .len (.cons (.var 0) .nil)) (.cst (.int 2))) (.and_ (.call "is_place" (.cons (.fz (.idx (.var 0) (.cst (.int 0)))) .nil)) (.call "is_name" (.cons (.fz (.idx (.var 0) (.cst (.int 1)))) .nil)))))
def B_asked : S := .seq (.asgd 2 (.call "tells" (.cons (.fz (.var 0)) (.cons (.fz (.var 1)) .nil)))) (.seq (.asgd 3 (.call "gap_at" (.cons (.fz (.var 0)) (.cons (.fz (.var 1)) .nil)))) (.seq (.ite (.cmp .Is (.var 3) (.cst .non)) (.ret (.tup (.cons (.var 2) (.cons (.var 0) .nil)))) .skip) (.seq (.asg (.tp (.cons (.nm 4) (.cons (.nm 5) .nil))) (.idx (.idx (.var 0) (.cst (.int 1))) (.var 3))) (.seq (.ite (.cmp .LtE (.var 1) (.call "mark" (.cons (.fz (.var 4)) (.cons (.fz (.var 5)) .nil)))) (.ret (.tup (.cons (.var 2) (.cons (.call "with_gap" (.cons (.fz (.var 0)) (.cons (.fz (.var 3)) (.cons (.fz (.tup (.cons (.var 1) (.cons (.var 5) .nil)))) .nil)))) .nil)))) .skip) (.ret (.tup (.cons (.var 2) (.cons (.call "with_gap" (.cons (.fz (.var 0)) (.cons (.fz (.var 3)) (.cons (.fz (.tup (.cons (.var 4) (.cons (.var 1) .nil)))) .nil)))) .nil))))))))
def B_l_same : S := .seq (.ite (.or_ (.not_ (.isi (.var 0) "tuple")) (.or_ (.cmp .NotEq (.var 0) (.var 1)) (.cmp .NotEq (.blt .len (.cons (.var 0) .nil)) (.cst (.int 2))))) (.ret (.cst (.bl false))) .skip) (.seq (.asg (.tp (.cons (.nm 2) (.cons (.nm 3) .nil))) (.var 0)) (.seq (.ite (.or_ (.not_ (.isi (.var 2) "tuple")) (.or_ (.not_ (.isi (.var 3) "tuple")) (.not_ (.blt .all (.cons (.comp [4] (.nm 4) .plain (.cons (.var 3) .nil) .nop (.isi (.var 4) "tuple")) .nil))))) (.ret (.cst (.bl false))) .skip) (.ret (.not_ (.blt .any (.cons (.comp [4] (.nm 4) .plain (.cons (.var 3) .nil) .nop (.or_ (.isi (.idx (.var 4) (.cst (.int 0))) "bool") (.isi (.idx (.var 4) (.cst (.int 1))) "bool"))) .nil))))))
def B_l_nearest : S := .seq (.asg (.nm 2) (.idx (.var 0) (.cst (.int 0)))) (.seq (.for_ (.nm 3) .plain (.cons (.var 0) .nil) (.ite (.cmp .Lt (.blt .abs (.cons (.bin .Sub (.idx (.var 3) (.cst (.int 0))) (.var 1)) .nil)) (.blt .abs (.cons (.bin .Sub (.idx (.var 2) (.cst (.int 0))) (.var 1)) .nil))) (.asg (.nm 2) (.var 3)) .skip)) (.ret (.idx (.var 2) (.cst (.int 1)))))
def B_l_place : S := .seq (.asgd 2 (.comp [7] (.nm 7) .range (.cons (.bin .Sub (.blt .len (.cons (.var 1) .nil)) (.cst (.int 1))) .nil) (.cmp .NotEq (.idx (.idx (.var 1) (.var 7)) (.cst (.int 1))) (.idx (.idx (.var 1) (.bin .Add (.var 7) (.cst (.int 1)))) (.cst (.int 1)))) (.var 7))) (.seq (.asg (.nm 3) (.call "_law_draw" (.cons (.var 0) (.cons (.fz (.blt .len (.cons (.var 1) .nil))) .nil)))) (.seq (.ite (.and_ (.cmp .NotEq (.var 2) (.lst .nil)) (.cmp .Gt (.call "_law_draw" (.cons (.var 0) (.cons (.cst (.int 4)) .nil))) (.cst (.int 0)))) (.asg (.nm 3) (.idx (.var 2) (.call "_law_draw" (.cons (.var 0) (.cons (.fz (.blt .len (.cons (.var 2) .nil))) .nil))))) .skip) (.seq (.asg (.nm 4) (.idx (.idx (.var 1) (.var 3)) (.cst (.int 0)))) (.seq (.asg (.nm 5) (.idx (.idx (.var 1) (.blt .min (.cons (.bin .Add (.var 3) (.cst (.int 1))) (.cons (.bin .Sub (.blt .len (.cons (.var 1) .nil)) (.cst (.int 1))) .nil)))) (.cst (.int 0)))) (.seq (.asg (.nm 6) (.call "_law_draw" (.cons (.var 0) (.cons (.cst (.int 7)) .nil)))) (.seq (.ite (.cmp .Lt (.var 6) (.cst (.int 3))) (.asg (.nm 4) (.bin .Sub (.bin .Add (.bin .FloorDiv (.bin .Add (.var 4) (.var 5)) (.cst (.int 2))) (.call "_law_draw" (.cons (.var 0) (.cons (.cst (.int 4)) .nil)))) (.cst (.int 1)))) (.ite (.cmp .Lt (.var 6) (.cst (.int 5))) (.asg (.nm 4) (.bin .Add (.var 4) (.call "_law_draw" (.cons (.var 0) (.cons (.fz (.blt .max (.cons (.cst (.int 1)) (.cons (.bin .Add (.bin .Sub (.var 5) (.var 4)) (.cst (.int 1))) .nil)))) .nil))))) (.ite (.cmp .Eq (.var 6) (.cst (.int 5))) (.asg (.nm 4) (.bin .Sub (.bin .Add (.var 4) (.call "_law_draw" (.cons (.var 0) (.cons (.cst (.int 9)) .nil)))) (.cst (.int 4)))) (.asg (.nm 4) (.bin .Sub (.call "_law_draw" (.cons (.var 0) (.cons (.fz (.bin .Add (.bin .Mult (.cst (.int 2)) (.bin .Pow (.cst (.int 10)) (.cst (.int 60)))) (.cst (.int 1)))) .nil))) (.bin .Pow (.cst (.int 10)) (.cst (.int 60)))))))) (.ret (.blt .max (.cons (.neg (.bin .Pow (.cst (.int 10)) (.cst (.int 60)))) (.cons (.blt .min (.cons (.bin .Pow (.cst (.int 10)) (.cst (.int 60))) (.cons (.var 4) .nil))) .nil))))))))))
def B_l_names2 : S := .seq (.asg (.nm 1) (.cst (.str "abcdefghijklmnopqrstuvwxyz"))) (.seq (.asg (.nm 2) (.bin .Add (.cst (.int 1)) (.call "_law_draw" (.cons (.var 0) (.cons (.cst (.int 8)) .nil))))) (.seq (.asg (.nm 3) (.call "_law_draw" (.cons (.var 0) (.cons (.fz (.var 2)) .nil)))) (.seq (.asg (.nm 4) (.call "_law_draw" (.cons (.var 0) (.cons (.cst (.int 26)) .nil)))) (.seq (.asg (.nm 5) (.mth .join (.cst (.str "")) (.cons (.comp [6] (.nm 6) .range (.cons (.var 2) .nil) .nop (.idx (.var 1) (.call "_law_draw" (.cons (.var 0) (.cons (.cst (.int 26)) .nil))))) .nil))) (.ret (.comp [6] (.nm 6) .range (.cons (.cst (.int 3)) .nil) .nop (.bin .Add (.bin .Add (.slc (.var 5) .nop (.var 3)) (.idx (.var 1) (.bin .Mod (.bin .Add (.var 4) (.bin .Mult (.cst (.int 5)) (.var 6))) (.cst (.int 26))))) (.slc (.var 5) (.bin .Add (.var 3) (.cst (.int 1))) .nop))))))))
def B_asked_row : S := .seq (.asg (.nm 2) (.lst .nil)) (.seq (.for_ (.nm 3) .plain (.cons (.var 1) .nil) (.seq (.asg (.tp (.cons (.nm 4) (.cons (.nm 0) .nil))) (.call "asked" (.cons (.fz (.var 0)) (.cons (.fz (.var 3)) .nil)))) (.ex (.chg .append 2 (.cons (.var 4) .nil))))) (.ret (.tup (.cons (.var 2) (.cons (.var 0) .nil)))))
def B_are_names : S := .seq (.ite (.or_ (.not_ (.isi (.var 0) "tuple")) (.or_ (.not_ (.chn .LtE .LtE (.cst (.int 1)) (.blt .len (.cons (.var 0) .nil)) (.cst (.int 60)))) (.not_ (.blt .all (.cons (.comp [1] (.nm 1) .plain (.cons (.var 0) .nil) .nop (.call "is_name" (.cons (.fz (.var 1)) .nil))) .nil))))) (.ret (.cst (.bl false))) .skip) (.ret (.blt .all (.cons (.comp [1, 2] (.tp (.cons (.nm 1) (.cons (.nm 2) .nil))) .zip (.cons (.var 0) (.cons (.slc (.var 0) (.cst (.int 1)) .nop) .nil)) .nop (.cmp .NotEq (.var 1) (.var 2))) .nil)))
def B_is_form : S := .seq (.ite (.or_ (.not_ (.isi (.var 0) "tuple")) (.or_ (.cmp .NotEq (.blt .len (.cons (.var 0) .nil)) (.cst (.int 2))) (.not_ (.call "are_names" (.cons (.fz (.idx (.var 0) (.cst (.int 0)))) .nil))))) (.ret (.cst (.bl false))) .skip) (.seq (.asg (.nm 1) (.idx (.var 0) (.cst (.int 1)))) (.seq (.ite (.or_ (.not_ (.isi (.var 1) "tuple")) (.or_ (.cmp .NotEq (.blt .len (.cons (.var 1) .nil)) (.bin .Sub (.blt .len (.cons (.idx (.var 0) (.cst (.int 0))) .nil)) (.cst (.int 1)))) (.not_ (.blt .all (.cons (.comp [2] (.nm 2) .plain (.cons (.var 1) .nil) .nop (.call "is_gap" (.cons (.fz (.var 2)) .nil))) .nil))))) (.ret (.cst (.bl false))) .skip) (.ret (.blt .all (.cons (.comp [3, 4] (.tp (.cons (.nm 3) (.cons (.nm 4) .nil))) .zip (.cons (.var 1) (.cons (.slc (.var 1) (.cst (.int 1)) .nop) .nil)) .nop (.cmp .LtE (.idx (.var 3) (.cst (.int 1))) (.idx (.var 4) (.cst (.int 0))))) .nil)))))
def B_is_gap : S := .seq (.ite (.or_ (.not_ (.isi (.var 0) "tuple")) (.cmp .NotEq (.blt .len (.cons (.var 0) .nil)) (.cst (.int 2)))) (.ret (.cst (.bl false))) .skip) (.ret (.and_ (.call "is_place" (.cons (.fz (.idx (.var 0) (.cst (.int 0)))) .nil)) (.and_ (.call "is_place" (.cons (.fz (.idx (.var 0) (.cst (.int 1)))) .nil)) (.cmp .Lt (.idx (.var 0) (.cst (.int 0))) (.idx (.var 0) (.cst (.int 1)))))))
def B_l_form2 : S := .seq (.asgd 3 (.call "_law_names" (.cons (.var 0) .nil))) (.seq (.asg (.nm 4) (.idx (.lst (.cons (.cst (.int 12)) (.cons (.bin .Pow (.cst (.int 10)) (.cst (.int 9))) (.cons (.bin .Pow (.cst (.int 10)) (.cst (.int 58))) .nil)))) (.call "_law_draw" (.cons (.var 0) (.cons (.cst (.int 3)) .nil))))) (.seq (.asg (.nm 5) (.bin .Sub (.call "_law_draw" (.cons (.var 0) (.cons (.fz (.bin .Add (.bin .Mult (.cst (.int 2)) (.var 4)) (.cst (.int 1)))) .nil))) (.var 4))) (.seq (.asg (.nm 6) (.call "_law_draw" (.cons (.var 0) (.cons (.cst (.int 3)) .nil)))) (.seq (.asg (.nm 7) (.lst (.cons (.idx (.var 3) (.var 6)) .nil))) (.seq (.asg (.nm 8) (.lst .nil)) (.seq (.for_ (.nm 9) .range (.cons (.bin .Add (.var 1) (.call "_law_draw" (.cons (.var 0) (.cons (.bin .Sub (.bin .Add (.var 2) (.cst (.int 1))) (.var 1)) .nil)))) .nil) (.seq (.asg (.nm 10) (.bin .Add (.var 5) (.call "_law_draw" (.cons (.var 0) (.cons (.fz (.idx (.lst (.cons (.cst (.int 1)) (.cons (.cst (.int 4)) (.cons (.var 4) .nil)))) (.call "_law_draw" (.cons (.var 0) (.cons (.cst (.int 3)) .nil))))) .nil))))) (.seq (.asg (.nm 5) (.bin .Add (.bin .Add (.var 10) (.cst (.int 1))) (.call "_law_draw" (.cons (.var 0) (.cons (.fz (.idx (.lst (.cons (.cst (.int 3)) (.cons (.cst (.int 13)) (.cons (.var 4) .nil)))) (.call "_law_draw" (.cons (.var 0) (.cons (.cst (.int 3)) .nil))))) .nil))))) (.seq (.ex (.chg .append 8 (.cons (.tup (.cons (.var 10) (.cons (.var 5) .nil))) .nil))) (.seq (.asg (.nm 6) (.bin .Mod (.bin .Add (.bin .Add (.var 6) (.cst (.int 1))) (.call "_law_draw" (.cons (.var 0) (.cons (.cst (.int 2)) .nil)))) (.cst (.int 3)))) (.ex (.chg .append 7 (.cons (.idx (.var 3) (.var 6)) .nil)))))))) (.ret (.tup (.cons (.blt .tuple (.cons (.var 7) .nil)) (.cons (.blt .tuple (.cons (.var 8) .nil)) .nil))))))))))
def B_judged : S := .ret (.idx (.call "nearest" (.cons (.fz (.var 0)) (.cons (.fz (.var 1)) .nil))) (.cst (.int 1)))
def B_nearest : S := .seq (.asg (.nm 2) (.cst .non)) (.seq (.for_ (.nm 3) .plain (.cons (.srt (.var 0)) .nil) (.ite (.or_ (.cmp .Is (.var 2) (.cst .non)) (.cmp .Lt (.blt .abs (.cons (.bin .Sub (.idx (.var 3) (.cst (.int 0))) (.var 1)) .nil)) (.blt .abs (.cons (.bin .Sub (.idx (.var 2) (.cst (.int 0))) (.var 1)) .nil)))) (.asg (.nm 2) (.var 3)) .skip)) (.ret (.var 2)))
def B_best : S := .seq (.asgd 3 (.call "gap_at" (.cons (.fz (.var 0)) (.cons (.fz (.var 1)) .nil)))) (.seq (.ite (.cmp .Is (.var 3) (.cst .non)) (.ret (.cst .non)) .skip) (.seq (.asg (.tp (.cons (.nm 4) (.cons (.nm 5) .nil))) (.idx (.idx (.var 0) (.cst (.int 1))) (.var 3))) (.seq (.ite (.cmp .Eq (.var 2) (.cst (.str "L"))) (.ret (.ite (.cmp .Gt (.call "mark" (.cons (.fz (.var 4)) (.cons (.fz (.var 5)) .nil))) (.var 4)) (.call "mark" (.cons (.fz (.var 4)) (.cons (.fz (.var 5)) .nil))) (.cst .non))) .skip) (.ret (.ite (.cmp .Lt (.bin .Add (.call "mark" (.cons (.fz (.var 4)) (.cons (.fz (.var 5)) .nil))) (.cst (.int 1))) (.var 5)) (.bin .Add (.call "mark" (.cons (.fz (.var 4)) (.cons (.fz (.var 5)) .nil))) (.cst (.int 1))) (.cst .non))))))
def B_l_form3 : S := .seq (.asgd 1 (.comp [3] (.nm 3) .range (.cons (.bin .Sub (.blt .len (.cons (.var 0) .nil)) (.cst (.int 1))) .nil) (.cmp .NotEq (.idx (.idx (.var 0) (.var 3)) (.cst (.int 1))) (.idx (.idx (.var 0) (.bin .Add (.var 3) (.cst (.int 1)))) (.cst (.int 1)))) (.var 3))) (.seq (.asgd 2 (.bin .Add (.comp [3] (.nm 3) .plain (.cons (.var 1) .nil) .nop (.idx (.idx (.var 0) (.var 3)) (.cst (.int 1)))) (.lst (.cons (.idx (.idx (.var 0) (.neg (.cst (.int 1)))) (.cst (.int 1))) .nil)))) (.ret (.tup (.cons (.blt .tuple (.cons (.var 2) .nil)) (.cons (.blt .tuple (.cons (.comp [3] (.nm 3) .plain (.cons (.var 1) .nil) .nop (.tup (.cons (.idx (.idx (.var 0) (.var 3)) (.cst (.int 0))) (.cons (.idx (.idx (.var 0) (.bin .Add (.var 3) (.cst (.int 1)))) (.cst (.int 0))) .nil)))) .nil)) .nil)))))
end Itp
/-! Names: the drawn names of many laws. -/
namespace Itp
open PySem
/-- a name's letters -/
def NameOk (c : List Nat) : Prop := 1 ≤ c.length ∧ c.length ≤ 8 ∧ ∀ x ∈ c, 97 ≤ x ∧ x ≤ 122
def nmD (c : List Nat) : D := .str ⟨c.toArray⟩
theorem nmD_ok {c : List Nat} (h : NameOk c) : (nmD c).ok := ok_str fun x hx => by have := h.2.2 x hx; omega
theorem letters_at : ∀ n, n < 26 → ("abcdefghijklmnopqrstuvwxyz" : Str).cps.toList[n]? = some (97 + n) := by decide +kernel
theorem letters_len : ("abcdefghijklmnopqrstuvwxyz" : Str).length = 26 := by decide +kernel
theorem letters_atI {v : Int} (h0 : 0 ≤ v) (h1 : v < 26) : L2.atI ("abcdefghijklmnopqrstuvwxyz" : Str).cps.toList v = some (97 + v.toNat) := by
  obtain ⟨n, rfl⟩ := Int.eq_ofNat_of_zero_le h0
  exact atI_at (letters_at n (by omega))
def chD (c : Nat) : D := .str ⟨#[c]⟩
theorem strs_chD : ∀ l : List Nat, strsOf (l.map chD) = some (l.map fun c => (⟨#[c]⟩ : Str))
  | [] => rfl
  | b :: l => by
    show (strsOf (l.map chD)).map _ = _
    rw [strs_chD l]
    rfl
theorem sum_ones : ∀ l : List Nat, ((l.map fun c => (⟨#[c]⟩ : Str)).map (·.length)).sum = l.length
  | [] => rfl
  | c :: l => by
    have := sum_ones l
    simp only [List.map_cons, List.sum_cons, List.length_cons] at this ⊢
    rw [this]
    show 1 + l.length = l.length + 1
    omega
theorem strs_of {xs : List D} {cs : List Nat} (e : xs = cs.map chD) : strsOf xs = some (cs.map fun c => (⟨#[c]⟩ : Str)) := by rw [e]; exact strs_chD cs
def SpNames (C : Ct) : Prop := ∀ h (n : Nat) Q, Hand h → 1 ≤ n → n ≤ 20 → (∀ (l : List (List Nat)) h', Hand h' → l.length = n → l.Nodup → (∀ c ∈ l, NameOk c) → Q (.l false (l.map nmD)) [some (.l true h'), some (.d (.int n))]) → C "_law_names" [.l true h, .d (.int n)] Q
theorem rangeD_at {lo : Int} {n i : Nat} {x : D} (h : (rangeD lo n)[i]? = some x) : i < n ∧ x = .int (lo + (i : Nat)) := by
  unfold rangeD at h
  rw [List.getElem?_map] at h
  by_cases hi : i < n
  · rw [List.getElem?_range hi] at h
    exact ⟨hi, (Option.some.inj h).symm⟩
  · rw [List.getElem?_eq_none (by simpa using hi)] at h
    cases h
theorem rangeD_len {lo : Int} {n : Nat} : (rangeD lo n).length = n := by simp [rangeD]
theorem nodup_range {α : Type} (g : Nat → α) (n : Nat) (h : ∀ i j, i < j → j < n → g i ≠ g j) : ((List.range n).map g).Nodup := by
  rw [List.Nodup, List.pairwise_map]
  exact List.pairwise_lt_range.imp_of_mem fun hi hj hlt => h _ _ hlt (List.mem_range.mp hj)
theorem cut_nm (c : List Nat) {k : Nat} (h : k ≤ c.length) : L2.cutS ⟨c.toArray⟩ none (some (k : Int)) = ⟨(c.take k).toArray⟩ := by rw [cutS_eq, cut_to h]
theorem names_ok {T : Tab} (t : DrawT T) (tn : T "_law_names" = some ⟨2, 8, B_l_names, false⟩) : ∀ k, 4 ≤ k → SpNames (call T k) := lvl 4 fun j h n Q hh n1 n2 hq => by
  have dr := draw_ok t (k := j + 3) (by omega)
  refine run_call tn rfl ?_
  generalize call T (j + 3) = C at dr ⊢
  refine dr _ _ _ hh (by decide) (by decide) fun v h1 hh1 v0 v1 => ?_
  refine ⟨⟨by omega, by omega⟩, ?_⟩
  show compL _ _ _ _ _ _ _ _ _ _
  refine compL_inv _ (fun i acc s => ∃ cs h2, Hand h2 ∧ cs.length = i ∧ (∀ x ∈ cs, 97 ≤ x ∧ x ≤ 122) ∧ acc = cs.map chD ∧ s = [some (.l true h2), some (.d (.int n)), some (.d (.str "abcdefghijklmnopqrstuvwxyz")), none, none, none, none, none]) (fun i x acc s N hN hx hs => ?_) (fun acc s hs => ?_) _ ⟨[], h1, hh1, rfl, fun x hx => by simp at hx, rfl, rfl⟩
  · obtain ⟨cs, h2, hh2, hl, hc, rfl, rfl⟩ := hs
    obtain ⟨hi, rfl⟩ := rangeD_at hx
    refine ⟨_, rfl, ?_⟩
    refine dr _ _ _ hh2 (by decide) (by decide) fun u h3 hh3 u0 u1 => ?_
    refine ⟨Nat.le_of_ble_eq_true rfl, _, letters_atI u0 u1, ?_⟩
    refine ⟨_, _, rfl, ?_, ?_⟩
    · rw [List.length_map, hl]; show i < 16777216; omega
    · refine hN _ _ ⟨cs ++ [97 + u.toNat], h3, hh3, by simp [hl], fun x hx => ?_, by simp [chD], rfl⟩
      rcases List.mem_append.mp hx with hx | hx
      · exact hc x hx
      · rw [List.mem_singleton.mp hx]; omega
  · obtain ⟨cs, h2, hh2, hl, hc, rfl, rfl⟩ := hs
    rw [rangeD_len] at hl
    have hl1 : 1 ≤ cs.length ∧ cs.length ≤ 8 := by omega
    clear hl
    refine dr _ _ _ hh2 ?_ (small ?_ ?_) fun at_ h3 hh3 a0 a1 => ?_
    · show (0 : Int) < ((cs.map chD).length : Int)
      rw [List.length_map]; omega
    · show (0 : Int) < ((cs.map chD).length : Int)
      rw [List.length_map]; omega
    · show ((cs.map chD).length : Int) ≤ 10 ^ 70
      rw [List.length_map]; omega
    rw [List.length_map] at a1
    obtain ⟨at_, rfl⟩ := Int.eq_ofNat_of_zero_le a0
    have ha : at_ < cs.length := by omega
    refine dr _ _ _ hh3 (by decide) (by decide) fun f h4 hh4 f0 f1 => ?_
    refine ⟨Nat.le_of_ble_eq_true rfl, ?_⟩
    refine ⟨⟨by omega, by omega⟩, ?_⟩
    show forL _ _ _ _ _ _
    let w : Nat → List Nat := fun j => cs.set at_ (97 + ((f + 5 * (j : Int)) % 26).toNat)
    have wl : ∀ j, (w j).length = cs.length := fun j => by simp [w]
    have wok : ∀ j, NameOk (w j) := fun j => by
      refine ⟨by rw [wl]; exact hl1.1, by rw [wl]; exact hl1.2, fun x hx => ?_⟩
      rcases List.mem_or_eq_of_mem_set hx with hx | rfl
      · exact hc x hx
      · omega
    refine forL_inv _ (fun i s => ∃ c0 o7, fr o7 ∧ s = [some (.l true h4), some (.d (.int n)), some (.d (.str "abcdefghijklmnopqrstuvwxyz")), some (.l false ((cs.set at_ c0).map chD)), some (.d (.int at_)), some (.d (.int f)), some (.l false ((List.range i).map fun j => nmD (w j))), o7]) (fun i x s N hN hx hs => ?_) (fun s hs => ?_) _ ⟨cs[at_], none, fr.n, ?_⟩
    · obtain ⟨c0, o7, f7, rfl⟩ := hs
      obtain ⟨hi, rfl⟩ := rangeD_at hx
      refine ⟨_, put_fr rfl f7, ?_⟩
      refine ⟨.inl (by decide), by decide, Nat.le_of_ble_eq_true rfl, _, letters_atI (Int.emod_nonneg _ (by decide)) (Int.emod_lt_of_pos _ (by decide)), ?_⟩
      refine ⟨at_, ixN_at (by simpa using ha), ?_⟩
      have e3 : (((cs.set at_ c0).map chD).set at_ (D.str ⟨#[97 + ((f + 5 * (0 + (i : Int))) % 26).toNat]⟩)) = (w i).map chD := by
        rw [show D.str ⟨#[97 + ((f + 5 * (0 + (i : Int))) % 26).toNat]⟩ = chD (97 + ((f + 5 * (0 + (i : Int))) % 26).toNat) from rfl, ← List.map_set, List.set_set, Int.zero_add]
      refine ⟨(w i).map fun c => (⟨#[c]⟩ : Str), strs_of e3, ?_, ?_⟩
      · rw [sum_ones, List.length_map, wl]
        show cs.length + cs.length * 0 ≤ 16777216
        omega
      · rw [join_chars]
        refine ⟨?_, hN _ ⟨97 + ((f + 5 * (0 + (i : Int))) % 26).toNat, some (.d (.int (0 + (i : Int)))), fr.x, ?_⟩⟩
        · rw [List.length_map, List.length_range]; show i < 16777216; omega
        · rw [List.range_succ, List.map_append]
          have e4 : List.map chD (cs.set at_ (97 + ((f + 5 * (0 + (i : Int))) % 26).toNat)) = ((cs.set at_ c0).map chD).set at_ (D.str ⟨#[97 + ((f + 5 * (0 + (i : Int))) % 26).toNat]⟩) := by
            rw [e3, Int.zero_add]
          rw [e4]
          rfl
    · obtain ⟨c0, o7, f7, rfl⟩ := hs
      rw [rangeD_len]
      have hn : (n : Int).toNat = n := rfl
      rw [hn]
      have ndw : ((List.range n).map w).Nodup := nodup_range w n fun i j h1 h2 e => by
        have e1 : (w i)[at_]? = some (97 + ((f + 5 * (i : Int)) % 26).toNat) := List.getElem?_set_self (by simpa using ha)
        have e2 : (w j)[at_]? = some (97 + ((f + 5 * (j : Int)) % 26).toNat) := List.getElem?_set_self (by simpa using ha)
        rw [e, e2] at e1
        have e3 := Option.some.inj e1
        omega
      have plain : ∀ h9, Hand h9 → Q (.l false ((List.range n).map fun j => nmD (w j))) [some (.l true h9), some (.d (.int n))] := fun h9 hh9 => by
        have := hq ((List.range n).map w) h9 hh9 (by simp) ndw fun c hc => by
          obtain ⟨j, _, rfl⟩ := List.mem_map.mp hc
          exact wok j
        rwa [List.map_map] at this
      refine if_d (fun hge => ?_) fun hlt => ?_
      · have hge : n ≤ cs.length := by
          have : ((n : Int)) ≤ (((cs.set at_ c0).map chD).length : Int) := hge
          simp at this
          omega
        refine dr _ _ _ hh4 (by decide) (by decide) fun u h5 hh5 u0 u1 => ?_
        refine if_d (fun _ => ?_) fun _ => plain h5 hh5
        refine ⟨⟨by omega, by omega⟩, ?_⟩
        show compL _ _ _ _ _ _ _ _ _ _
        refine compL_inv _ (fun i acc s => acc = (List.range i).map (fun k => nmD ((w 0).take (k + 1))) ∧ s = [some (.l true h5), some (.d (.int n)), some (.d (.str "abcdefghijklmnopqrstuvwxyz")), some (.l false ((cs.set at_ c0).map chD)), some (.d (.int at_)), some (.d (.int f)), some (.l false ((List.range n).map fun j => nmD (w j))), o7]) (fun i x acc s N hN hx hs => ?_) (fun acc s hs => ?_) _ ⟨rfl, rfl⟩
        · obtain ⟨rfl, rfl⟩ := hs
          obtain ⟨hi, rfl⟩ := rangeD_at hx
          have hi : i < n := hi
          refine ⟨_, rfl, ?_⟩
          refine ⟨nmD (w 0), atI_at (k := 0) (by rw [List.getElem?_map, List.getElem?_range (by omega)]; rfl), ?_⟩
          refine ⟨?_, ?_⟩
          · show (w 0).toArray.size ≤ 16777216
            rw [List.size_toArray, wl]; omega
          refine ⟨_, _, rfl, ?_, ?_⟩
          · rw [List.length_map, List.length_range]; show i < 16777216; omega
          · refine hN _ _ ⟨?_, rfl⟩
            rw [List.range_succ, List.map_append]
            have e5 : L2.cutS ⟨(w 0).toArray⟩ none (some ((0 + (i : Int)) + 1)) = ⟨((w 0).take (i + 1)).toArray⟩ := by
              rw [show ((0 + (i : Int)) + 1) = ((i + 1 : Nat) : Int) by omega]
              exact cut_nm _ (by rw [wl]; omega)
            show _ ++ [D.str (L2.cutS ⟨(w 0).toArray⟩ none (some ((0 + (i : Int)) + 1)))] = _
            rw [e5]
            rfl
        · obtain ⟨rfl, rfl⟩ := hs
          rw [rangeD_len]
          have := hq ((List.range n).map fun k => (w 0).take (k + 1)) h5 hh5 (by simp) (nodup_range _ n fun i j h1 h2 e => by
            have e1 := congrArg List.length e
            rw [List.length_take, List.length_take, wl] at e1
            omega) fun c hc => by
              obtain ⟨k, hk, rfl⟩ := List.mem_map.mp hc
              have hk := List.mem_range.mp hk
              refine ⟨by rw [List.length_take, wl]; omega, by rw [List.length_take, wl]; omega, fun x hx => (wok 0).2.2 x (List.mem_of_mem_take hx)⟩
          rwa [List.map_map] at this
      · exact plain h4 hh4
    · rw [List.set_getElem_self]
      rfl
end Itp

/-! Cases: cases sorted by place; nearest. -/
namespace Itp
open PySem
abbrev Case := Int × List Nat
def caseD (c : Case) : D := .tup [.int c.1, nmD c.2]
def sortC (cs : List Case) : List Case := cs.mergeSort fun a b => decide (a.1 ≤ b.1)
theorem sortC_perm (cs : List Case) : (sortC cs).Perm cs := List.mergeSort_perm _ _
theorem sortC_le (cs : List Case) : (sortC cs).Pairwise fun a b => a.1 ≤ b.1 := by
  have h := List.pairwise_mergeSort (le := fun a b : Case => decide (a.1 ≤ b.1)) (fun a b c h1 h2 => by
    have h1 := of_decide_eq_true h1
    have h2 := of_decide_eq_true h2
    exact decide_eq_true (Int.le_trans h1 h2)) (fun a b => by
    rcases Int.le_total a.1 b.1 with h | h
    · rw [decide_eq_true h]; rfl
    · rw [decide_eq_true h, Bool.or_true]) cs
  exact h.imp fun h => of_decide_eq_true h
theorem caseD_lt (a b : Case) (h : a.1 ≠ b.1) : PySem.W.dataLt (caseD a).py (caseD b).py = decide (a.1 < b.1) := by
  show PySem.W.dataLt (.tuple [.int a.1, (nmD a.2).py]) (.tuple [.int b.1, (nmD b.2).py]) = _
  rw [PySem.W.dataLt_tuple, PySem.W.dataLt_all_no (by simp only [PySem.W.alike]) (by simpa [PyData.eqv] using h), PySem.W.dataLt_int]
theorem caseD_self (a : Case) : PySem.W.dataLt (caseD a).py (caseD a).py = false := PyProof.Rows.lex_irrefl _
theorem fst_inj {cs : List Case} (nd : (cs.map (·.1)).Nodup) {a b : Case} (ha : a ∈ cs) (hb : b ∈ cs) (e : a.1 = b.1) : a = b := by
  induction cs with
  | nil => simp at ha
  | cons c cs ih =>
    rw [List.map_cons, List.nodup_cons] at nd
    rcases List.mem_cons.mp ha with e1 | ha'
    · rcases List.mem_cons.mp hb with e2 | hb'
      · rw [e1, e2]
      · exact absurd (List.mem_map.mpr ⟨b, hb', by rw [← e, e1]⟩) nd.1
    · rcases List.mem_cons.mp hb with e2 | hb'
      · exact absurd (List.mem_map.mpr ⟨a, ha', by rw [e, e2]⟩) nd.1
      · exact ih nd.2 ha' hb'
theorem srt_cases {cs : List Case} (nd : (cs.map (·.1)).Nodup) : srtD (cs.map caseD) = (sortC cs).map caseD := by
  unfold srtD sortC
  refine (List.map_mergeSort fun a ha b hb => ?_).symm
  show decide (a.1 ≤ b.1) = !PySem.W.dataLt (caseD b).py (caseD a).py
  by_cases e : b.1 = a.1
  · have := fst_inj nd hb ha e
    subst this
    rw [caseD_self]
    simp
  · rw [caseD_lt _ _ e]
    by_cases h : b.1 < a.1
    · rw [decide_eq_true h, decide_eq_false (by omega)]; rfl
    · rw [decide_eq_false h, decide_eq_true (by omega)]; rfl
theorem caseD_depth (c : Case) : (caseD c).py.depth = 1 := by simp [caseD, nmD, D.py, D.pyAll, PyData.depth, PyData.depthAll]
theorem srtOk_cases {cs : List Case} (h : cs.length ≤ 10000) : SrtOk (cs.map caseD) := by
  refine ⟨fun x hx => ?_, ?_, ?_, ?_⟩
  · obtain ⟨c, _, rfl⟩ := List.mem_map.mp hx
    exact ⟨rfl, by rw [caseD_depth]; decide⟩
  · rw [List.map_map]
    exact PySem.W.AllAlike.of fun b b' => by simp [caseD, nmD, D.py, D.pyAll, PySem.W.alike, PySem.W.alikeAll]
  · rw [List.map_map]
    exact PySem.W.Sortable.tuples fun b => ⟨_, _, rfl⟩
  · rw [List.length_map]; show cs.length ≤ 16777216; omega
/-- a list handed over: data, or lent -/
def Lt (o : O) (xs : List D) : Prop := o = .d (.lst xs) ∨ o = .l true xs
theorem Lt.d {xs : List D} : Lt (.d (.lst xs)) xs := .inl rfl
theorem Lt.l {xs : List D} : Lt (.l true xs) xs := .inr rfl
def nearF (p : Int) (b : Option Case) (c : Case) : Option Case := match b with
  | none => some c
  | some b => if (c.1 - p).natAbs < (b.1 - p).natAbs then some c else some b
def optD : Option Case → D
  | none => .non
  | some c => caseD c
def SpNear (C : Ct) : Prop := ∀ o (cs : List Case) p Q, Lt o (cs.map caseD) → (cs.map (·.1)).Nodup → cs.length ≤ 10000 → Q (.d (optD ((sortC cs).foldl (nearF p) none))) [some o, some (.d (.int p))] → C "nearest" [o, .d (.int p)] Q
theorem abs_lt (x y : Int) : ((if x < 0 then -x else x) < (if y < 0 then -y else y)) ↔ x.natAbs < y.natAbs := by
  split <;> split <;> omega
theorem near_ok {T : Tab} (tn : T "nearest" = some ⟨2, 4, B_nearest, false⟩) : ∀ k, 1 ≤ k → SpNear (call T k) := lvl 1 fun j o cs p Q ho nd hl hq => by
  refine run_call tn rfl ?_
  generalize call T j = C
  have rest : forL (.nm 3) (fun D s => normK s fun s => rS C (.ite (.or_ (.cmp .Is (.var 2) (.cst .non)) (.cmp .Lt (.blt .abs (.cons (.bin .Sub (.idx (.var 3) (.cst (.int 0))) (.var 1)) .nil)) (.blt .abs (.cons (.bin .Sub (.idx (.var 2) (.cst (.int 0))) (.var 1)) .nil)))) (.asg (.nm 2) (.var 3)) .skip) D s) (unlock []) { rEnds 2 Q with nx := fun s1 => rS C (.ret (.var 2)) (rEnds 2 Q) s1 } ((sortC cs).map caseD) [some o, some (.d (.int p)), some (.d .non), none] := by
   refine forL_inv _ (fun i s => ∃ o3, fr o3 ∧ s = [some o, some (.d (.int p)), some (.d (optD (((sortC cs).take i).foldl (nearF p) none))), o3]) (fun i x s N hN hx hs => ?_) (fun s hs => ?_) _ ⟨none, fr.n, rfl⟩
   · obtain ⟨o3, f3, rfl⟩ := hs
     rw [List.getElem?_map] at hx
     obtain ⟨c, hc, rfl⟩ := Option.map_eq_some_iff.mp hx
     have stp : ((sortC cs).take (i + 1)).foldl (nearF p) none = nearF p (((sortC cs).take i).foldl (nearF p) none) c := by
       rw [List.take_add_one, hc, List.foldl_append]; rfl
     refine ⟨[some o, some (.d (.int p)), some (.d (optD (((sortC cs).take i).foldl (nearF p) none))), some (.d (caseD c))], put_fr rfl f3, ?_⟩
     cases hb : ((sortC cs).take i).foldl (nearF p) none with
     | none =>
       rw [hb] at stp
       exact hN _ ⟨some (.d (caseD c)), fr.x, by rw [stp]; rfl⟩
     | some b =>
       rw [hb] at stp
       refine ⟨_, rfl, _, rfl, ?_⟩
       refine if_d (fun h => ?_) fun h => ?_
       · have h' := (abs_lt _ _).mp h
         refine hN _ ⟨some (.d (caseD c)), fr.x, ?_⟩
         rw [stp]; show _ = [_, _, some (O.d (optD (if _ then _ else _))), _]
         rw [if_pos h']
         try rfl
       · have h' : ¬ (c.1 - p).natAbs < (b.1 - p).natAbs := fun z => h ((abs_lt _ _).mpr z)
         refine hN _ ⟨some (.d (caseD c)), fr.x, ?_⟩
         rw [stp]; show _ = [_, _, some (O.d (optD (if _ then _ else _))), _]
         rw [if_neg h']
         try rfl
   · obtain ⟨o3, f3, rfl⟩ := hs
     rw [List.length_map, List.take_length]
     exact hq
  rcases ho with rfl | rfl
  · refine ⟨srtOk_cases hl, ?_⟩
    show forL _ _ _ _ _ _
    rw [srt_cases nd]
    exact rest
  · refine ⟨srtOk_cases hl, ?_⟩
    show forL _ _ _ _ _ _
    rw [srt_cases nd]
    exact rest
theorem nd_of_lt {ss : List Case} (s : ss.Pairwise fun a b => a.1 < b.1) : (ss.map (·.1)).Nodup := by
  rw [List.Nodup, List.pairwise_map]
  exact s.imp fun h => Int.ne_of_lt h
theorem sortC_eq {cs ss : List Case} (p : ss.Perm cs) (s : ss.Pairwise fun a b => a.1 < b.1) : sortC cs = ss := by
  have h2 := (sortC_perm cs).trans p.symm
  refine List.Perm.eq_of_pairwise (le := fun a b => a.1 ≤ b.1) (fun a b ha hb h3 h4 => ?_) (sortC_le cs) (s.imp fun h => Int.le_of_lt h) h2
  exact fst_inj (nd_of_lt s) (h2.mem_iff.mp ha) hb (by omega)
def SpJudged (C : Ct) : Prop := ∀ o (cs : List Case) p c Q, Lt o (cs.map caseD) → (cs.map (·.1)).Nodup → cs.length ≤ 10000 → (sortC cs).foldl (nearF p) none = some c → Q (.d (nmD c.2)) [some o, some (.d (.int p))] → C "judged" [o, .d (.int p)] Q
theorem judged_ok {T : Tab} (tn : T "nearest" = some ⟨2, 4, B_nearest, false⟩) (tj : T "judged" = some ⟨2, 2, B_judged, false⟩) : ∀ k, 2 ≤ k → SpJudged (call T k) := lvl 2 fun j o cs p c Q ho nd hl hc hq => by
  have ne := near_ok tn (j + 1) (by omega)
  refine run_call tj rfl ?_
  generalize call T (j + 1) = C at ne ⊢
  rcases ho with rfl | rfl
  · refine ne _ cs p _ Lt.d nd hl ?_
    rw [hc]
    exact ⟨_, rfl, hq⟩
  · refine ne _ cs p _ Lt.l nd hl ?_
    rw [hc]
    exact ⟨_, rfl, hq⟩
end Itp

/-! Draws: drawn cases, shuffled lists. -/
namespace Itp
open PySem
theorem caseD_ok' {c : Case} (h : NameOk c.2) : (caseD c).plain = true ∧ (caseD c).py.canLay0 = true ∧ (caseD c).py.depth ≤ 1 := by
  refine ⟨rfl, ?_, by rw [caseD_depth]; decide⟩
  have := SeqAt.canLay_of_shaped (nmD_ok h).2
  show PyData.canLay0 (.tuple [.int c.1, (nmD c.2).py]) = true
  simp only [PyData.canLay0, PyData.canLayAll0, this, Bool.and_self]
def NamesOk (cs : List Case) : Prop := ∀ c ∈ cs, NameOk c.2
theorem cases_ok {cs : List Case} (h : NamesOk cs) : (D.lst (cs.map caseD)).ok := ok_lst (n := 1) (by decide) fun x hx => by
  obtain ⟨c, hc, rfl⟩ := List.mem_map.mp hx
  exact caseD_ok' (h c hc)
theorem erase_perm {α : Type} {us : List α} {n : Nat} (h : n < us.length) : (us[n] :: us.eraseIdx n).Perm us := by
  rw [List.eraseIdx_eq_take_drop_succ]
  have e : us = us.take n ++ us[n] :: us.drop (n + 1) := by
    rw [← List.drop_eq_getElem_cons h, List.take_append_drop]
  refine (List.perm_middle.symm).trans ?_
  exact List.Perm.of_eq e.symm
theorem map_erase {α β : Type} (f : α → β) (us : List α) (n : Nat) : (us.map f).eraseIdx n = (us.eraseIdx n).map f := by
  rw [List.eraseIdx_eq_take_drop_succ, List.eraseIdx_eq_take_drop_succ, List.map_append, List.map_take, List.map_drop]
theorem nil_ok : (D.lst []).ok := ⟨rfl, rfl⟩
theorem eqv_nil (xs : List D) : PyData.eqv (D.lst xs).py (D.lst []).py = xs.isEmpty := by cases xs <;> rfl
theorem seqIx {n k : Nat} (h : k < n) : seqIndex? (k : Int) n = some k := by
  have := (L2.ixN_seq (ixN_at h)).1
  exact this
def SpShuf (C : Ct) : Prop := ∀ h (cs : List Case) Q, Hand h → cs.length ≤ 10000 → NamesOk cs → (∀ (ps : List Case) h', Hand h' → ps.Perm cs → Q (.l false (ps.map caseD)) [some (.l true h'), some (.d (.lst (cs.map caseD)))]) → C "_law_shuffled" [.l true h, .d (.lst (cs.map caseD))] Q
theorem shuf_ok {T : Tab} (t : DrawT T) (tn : T "_law_shuffled" = some ⟨2, 4, B_l_shuffled, false⟩) : ∀ k, 4 ≤ k → SpShuf (call T k) := lvl 4 fun j h cs Q hh hl hn hq => by
  have dr := draw_ok t (k := j + 3) (by omega)
  refine run_call tn rfl ?_
  generalize call T (j + 3) = C at dr ⊢
  refine ⟨Nat.le_of_ble_eq_true rfl, ?_⟩
  refine ⟨fun m s => ∃ us vs h1, Hand h1 ∧ m = us.length ∧ (us ++ vs).Perm cs ∧ s = [some (.l true h1), some (.d (.lst (cs.map caseD))), some (.l false (us.map caseD)), some (.l false (vs.map caseD))], ⟨_, cs, [], h, hh, rfl, by simp, rfl⟩, ?_⟩
  rintro m s ⟨us, vs, h1, hh1, rfl, pm, rfl⟩
  have hu : NamesOk us := fun c hc => hn c (pm.mem_iff.mp (List.mem_append_left _ hc))
  have lu : us.length + vs.length = cs.length := by rw [← pm.length_eq, List.length_append]
  refine ⟨Nat.zero_le _, cases_ok hu, nil_ok, ?_⟩
  refine if_b (fun z => ?_) fun z => ?_
  · have z' : (!PyData.eqv (D.lst (us.map caseD)).py (D.lst []).py) = true := z
    rw [eqv_nil] at z'
    have pos : 0 < us.length := by
      cases us with
      | nil => cases z'
      | cons u us => exact Nat.succ_pos _
    refine dr _ _ _ hh1 ?_ (small ?_ ?_) fun v h2 hh2 v0 v1 => ?_
    · show (0 : Int) < ((us.map caseD).length : Int)
      rw [List.length_map]; omega
    · show (0 : Int) < ((us.map caseD).length : Int)
      rw [List.length_map]; omega
    · show ((us.map caseD).length : Int) ≤ 10 ^ 70
      rw [List.length_map]; omega
    rw [List.length_map] at v1
    obtain ⟨n, rfl⟩ := Int.eq_ofNat_of_zero_le v0
    have hn' : n < us.length := by omega
    refine ⟨⟨by omega, by omega⟩, n, caseD us[n], seqIx (by simpa using hn'), by rw [List.getElem?_map, List.getElem?_eq_getElem hn']; rfl, ?_⟩
    refine ⟨?_, ?_⟩
    · show (vs.map caseD).length < 16777216
      rw [List.length_map]; omega
    refine ⟨(us.eraseIdx n).length, by rw [List.length_eraseIdx]; split <;> omega, us.eraseIdx n, vs ++ [us[n]], h2, hh2, rfl, ?_, ?_⟩
    · have p1 := erase_perm hn'
      refine List.Perm.trans ?_ pm
      refine List.Perm.trans ?_ (p1.append_right vs)
      rw [← List.append_assoc]
      exact List.perm_append_comm.trans (by simp)
    · rw [List.map_append, ← map_erase]
      rfl
  · have z' : (!PyData.eqv (D.lst (us.map caseD)).py (D.lst []).py) = false := z
    rw [eqv_nil] at z'
    have e : us = [] := by
      cases us with
      | nil => rfl
      | cons u us => cases z'
    subst e
    exact hq vs h1 hh1 (by simpa using pm)
end Itp

/-! Forms: forms of names and gaps; what the program asks of them. -/
namespace Itp
open PySem
abbrev Gap := Int × Int
def gapD (g : Gap) : D := .tup [.int g.1, .int g.2]
def formD (ns : List (List Nat)) (gs : List Gap) : D := .tup [.tup (ns.map nmD), .tup (gs.map gapD)]
def mk (g : Gap) : Int := (g.1 + g.2) / 2
structure FormOk (ns : List (List Nat)) (gs : List Gap) : Prop where
  len : ns.length = gs.length + 1
  nm : ∀ n ∈ ns, NameOk n
  adj : ∀ (i : Nat) a b, ns[i]? = some a → ns[i + 1]? = some b → a ≠ b
  lt : ∀ g ∈ gs, g.1 < g.2
  ord : gs.Pairwise fun a b => a.2 ≤ b.1
/-! ### general -/
theorem skip_of {C : Ct} {E : En} {s : St} (h : E.nx s) : rS C .skip E s := h
theorem p60 : (10 : Int) ^ (60 : Int).toNat = 10 ^ 60 := rfl
theorem p59 : (10 : Int) ^ (59 : Int).toNat = 10 ^ 59 := rfl
theorem p58 : (10 : Int) ^ (58 : Int).toNat = 10 ^ 58 := rfl
theorem p9 : (10 : Int) ^ (9 : Int).toNat = 10 ^ 9 := rfl
theorem str_app (a b : List Nat) : (⟨a.toArray⟩ : Str) ++ ⟨b.toArray⟩ = ⟨(a ++ b).toArray⟩ := by
  show (⟨a.toArray ++ b.toArray⟩ : Str) = _
  congr 1
  simp
theorem str_inj {a b : List Nat} : ((⟨a.toArray⟩ : Str) = ⟨b.toArray⟩) ↔ a = b := ⟨fun h => by injection h with h; simpa using congrArg Array.toList h, fun h => by rw [h]⟩
theorem atI_ints {ns : List Int} {v : Int} (h0 : 0 ≤ v) (h1 : v < ns.length) : ∃ z ∈ ns, L2.atI (ns.map D.int) v = some (.int z) := by
  obtain ⟨n, rfl⟩ := Int.eq_ofNat_of_zero_le h0
  have hn : n < ns.length := by omega
  exact ⟨ns[n], List.getElem_mem hn, L2.atI_nat (by rw [List.getElem?_map, List.getElem?_eq_getElem hn]; rfl)⟩
theorem atI_mem {α : Type} (f : α → D) {xs : List α} {v : Int} (h0 : 0 ≤ v) (h1 : v < xs.length) : ∃ (n : Nat) (x : α), v = (n : Int) ∧ xs[n]? = some x ∧ L2.atI (xs.map f) v = some (f x) := by
  obtain ⟨n, rfl⟩ := Int.eq_ofNat_of_zero_le h0
  have hn : n < xs.length := by omega
  exact ⟨n, xs[n], rfl, List.getElem?_eq_getElem hn, L2.atI_nat (by rw [List.getElem?_map, List.getElem?_eq_getElem hn]; rfl)⟩
theorem atI_map_nat {α : Type} (f : α → D) {xs : List α} {n : Nat} {x : α} (h : xs[n]? = some x) : L2.atI (xs.map f) (n : Int) = some (f x) := L2.atI_nat (by rw [List.getElem?_map, h]; rfl)
theorem atI_zero {α : Type} (f : α → D) (x : α) (xs : List α) : L2.atI ((x :: xs).map f) 0 = some (f x) := atI_map_nat f (n := 0) rfl
theorem atI_last {α : Type} (f : α → D) {xs : List α} {x : α} (h : xs[xs.length - 1]? = some x) : L2.atI (xs.map f) (-1) = some (f x) := by
  have hl : 0 < xs.length := by
    rcases Nat.eq_zero_or_pos xs.length with z | z
    · rw [List.length_eq_zero_iff.mp z] at h; simp at h
    · exact z
  unfold L2.atI L2.ixN
  rw [List.length_map, if_neg (by omega), if_pos (by omega)]
  have e : ((-1 : Int) + (xs.length : Int)).toNat = xs.length - 1 := by omega
  simp only [e, List.getElem?_map, Option.bind_some, h, Option.map_some]
/-! ### targets of slots that may be written -/
theorem tg1 {s : St} {i : Nat} {oi : Option O} {x : D} (hi : s[i]? = some oi) (fi : fr oi) : setTg (.nm i) x s = some (s.set i (some (.d x))) := put_fr hi fi
theorem tg2 {s : St} {i j : Nat} {oi oj : Option O} {x y : D} (hi : s[i]? = some oi) (fi : fr oi) (hj : (s.set i (some (.d x)))[j]? = some oj) (fj : fr oj) :
    setTg (.tp (.cons (.nm i) (.cons (.nm j) .nil))) (.tup [x, y]) s = some ((s.set i (some (.d x))).set j (some (.d y))) := by
  show (match setTg (.nm i) x s with | some s1 => setTgs (.cons (.nm j) .nil) [y] s1 | none => none) = _
  rw [tg1 hi fi]
  show (match setTg (.nm j) y (s.set i (some (.d x))) with | some s1 => setTgs .nil [] s1 | none => none) = _
  rw [tg1 hj fj]
  rfl
theorem tg12 {s : St} {i j k : Nat} {oi oj ok : Option O} {x y z : D} (hi : s[i]? = some oi) (fi : fr oi) (hj : (s.set i (some (.d x)))[j]? = some oj) (fj : fr oj) (hk : ((s.set i (some (.d x))).set j (some (.d y)))[k]? = some ok) (fk : fr ok) :
    setTg (.tp (.cons (.nm i) (.cons (.tp (.cons (.nm j) (.cons (.nm k) .nil))) .nil))) (.tup [x, .tup [y, z]]) s = some (((s.set i (some (.d x))).set j (some (.d y))).set k (some (.d z))) := by
  show (match setTg (.nm i) x s with | some s1 => setTgs (.cons (.tp (.cons (.nm j) (.cons (.nm k) .nil))) .nil) [.tup [y, z]] s1 | none => none) = _
  rw [tg1 hi fi]
  show (match setTg (.tp (.cons (.nm j) (.cons (.nm k) .nil))) (.tup [y, z]) (s.set i (some (.d x))) with | some s1 => setTgs .nil [] s1 | none => none) = _
  rw [tg2 hj fj hk fk]
  rfl
/-! ### the first one of which something holds -/
section
variable {α : Type} {xs : List α} {p : α → Bool} {i : Nat} {x : α}
theorem fi_hit (h : i ≤ xs.findIdx p) (e : xs[i]? = some x) (hp : p x = true) : xs.findIdx p = i := by
  obtain ⟨hi, e⟩ := List.getElem?_eq_some_iff.mp e
  rcases Nat.lt_or_eq_of_le h with z | z
  · have := List.not_of_lt_findIdx z
    rw [e, hp] at this
    cases this
  · exact z.symm
theorem fi_miss (h : i ≤ xs.findIdx p) (e : xs[i]? = some x) (hp : p x = false) : i + 1 ≤ xs.findIdx p := by
  obtain ⟨hi, e⟩ := List.getElem?_eq_some_iff.mp e
  rcases Nat.lt_or_eq_of_le h with z | z
  · exact z
  · have hl : xs.findIdx p < xs.length := by omega
    have := List.findIdx_getElem (w := hl)
    have e2 : xs[xs.findIdx p] = x := by rw [← e]; congr 1; exact z.symm
    rw [e2, hp] at this
    cases this
theorem fi_end (h : xs.length ≤ xs.findIdx p) : xs.findIdx p = xs.length := Nat.le_antisymm List.findIdx_le_length h
end
theorem enumB_at : ∀ {xs : List D} {m i : Nat} {x : D}, (enumD m xs)[i]? = some x → ∃ y, xs[i]? = some y ∧ x = .tup [.int ((m + i : Nat) : Int), y]
  | [], m, i, x, h => by simp [enumD] at h
  | y :: ys, m, 0, x, h => by simp [enumD] at h; exact ⟨y, rfl, by simpa using h.symm⟩
  | y :: ys, m, i + 1, x, h => by
    obtain ⟨z, a, b⟩ := enumB_at (xs := ys) (m := m + 1) (i := i) (x := x) (by simpa [enumD] using h)
    exact ⟨z, by simpa using a, by rw [b]; congr 3; omega⟩
theorem enumB_len : ∀ {xs : List D} {m : Nat}, (enumD m xs).length = xs.length
  | [], _ => rfl
  | _ :: xs, m => by simp [enumD, enumB_len (xs := xs)]
theorem enum_map {α : Type} {f : α → D} {xs : List α} {i : Nat} {x : D} (h : (enumD 0 (xs.map f))[i]? = some x) : ∃ y, xs[i]? = some y ∧ x = .tup [.int (i : Int), f y] := by
  obtain ⟨y, a, b⟩ := enumB_at h
  rw [List.getElem?_map] at a
  obtain ⟨z, c, rfl⟩ := Option.map_eq_some_iff.mp a
  exact ⟨z, c, by rw [b]; simp⟩
theorem mapD_at {α : Type} {f : α → D} {xs : List α} {i : Nat} {x : D} (h : (xs.map f)[i]? = some x) : ∃ y, xs[i]? = some y ∧ x = f y := by
  rw [List.getElem?_map] at h
  obtain ⟨z, c, e⟩ := Option.map_eq_some_iff.mp h
  exact ⟨z, c, e.symm⟩
/-! ### mark, gap_at, tells -/
def SpMark (C : Ct) : Prop := ∀ a b Q, Q (.d (.int ((a + b) / 2))) [some (.d (.int a)), some (.d (.int b))] → C "mark" [.d (.int a), .d (.int b)] Q
theorem mark_ok {T : Tab} (tm : T "mark" = some ⟨2, 2, B_mark, false⟩) : ∀ k, 1 ≤ k → SpMark (call T k) := lvl 1 fun j a b Q h => by
  refine run_call tm rfl ?_
  exact ⟨⟨by decide, by decide⟩, h⟩
def inP (p : Int) (g : Gap) : Bool := decide (g.1 < p ∧ p < g.2)
def leP (p : Int) (g : Gap) : Bool := decide (p ≤ mk g)
/-- the gap in which a place lies -/
def gapN (gs : List Gap) (p : Int) : Option Nat := if gs.findIdx (inP p) < gs.length then some (gs.findIdx (inP p)) else none
def onD : Option Nat → D
  | none => .non
  | some n => .int (n : Int)
def tellN (gs : List Gap) (p : Int) : Nat := gs.findIdx (leP p)
theorem gapN_some {gs : List Gap} {p : Int} {i : Nat} (h : gapN gs p = some i) : ∃ g, gs[i]? = some g ∧ g.1 < p ∧ p < g.2 := by
  unfold gapN at h
  split at h
  · rename_i hl
    cases h
    refine ⟨_, List.getElem?_eq_getElem hl, ?_⟩
    have := List.findIdx_getElem (w := hl)
    exact of_decide_eq_true this
  · cases h
def SpGapAt (C : Ct) : Prop := ∀ x gs p Q, Q (.d (onD (gapN gs p))) [some (.d (.tup [x, .tup (gs.map gapD)])), some (.d (.int p))] → C "gap_at" [.d (.tup [x, .tup (gs.map gapD)]), .d (.int p)] Q
theorem gap_at_ok {T : Tab} (tg : T "gap_at" = some ⟨2, 5, B_gap_at, false⟩) : ∀ k, 1 ≤ k → SpGapAt (call T k) := lvl 1 fun j x gs p Q h => by
  refine run_call tg rfl ?_
  generalize call T j = C
  refine ⟨_, rfl, ?_⟩
  show forL _ _ _ _ _ _
  refine forL_inv _ (fun i s => ∃ o2 o3 o4, fr o2 ∧ fr o3 ∧ fr o4 ∧ i ≤ gs.findIdx (inP p) ∧ s = [some (.d (.tup [x, .tup (gs.map gapD)])), some (.d (.int p)), o2, o3, o4]) (fun i z s N hN hz hs => ?_) (fun s hs => ?_) _ ⟨none, none, none, fr.n, fr.n, fr.n, Nat.zero_le _, rfl⟩
  · obtain ⟨o2, o3, o4, f2, f3, f4, hi, rfl⟩ := hs
    obtain ⟨g, hg, rfl⟩ := enum_map hz
    refine ⟨[some (.d (.tup [x, .tup (gs.map gapD)])), some (.d (.int p)), some (.d (.int (i : Int))), some (.d (.int g.1)), some (.d (.int g.2))], tg12 rfl f2 rfl f3 rfl f4, ?_⟩
    refine if_d (fun h1 => ?_) fun h1 => ?_
    · refine if_d (fun h2 => ?_) fun h2 => ?_
      · have e := fi_hit hi hg (decide_eq_true ⟨h1, h2⟩)
        have hl : i < gs.length := (List.getElem?_eq_some_iff.mp hg).1
        have e2 : gapN gs p = some i := by unfold gapN; rw [e, if_pos hl]
        rw [e2] at h
        exact h
      · exact hN _ ⟨_, _, _, fr.x, fr.x, fr.x, fi_miss hi hg (decide_eq_false fun z => h2 z.2), rfl⟩
    · exact hN _ ⟨_, _, _, fr.x, fr.x, fr.x, fi_miss hi hg (decide_eq_false fun z => h1 z.1), rfl⟩
  · obtain ⟨o2, o3, o4, f2, f3, f4, hi, rfl⟩ := hs
    rw [enumB_len, List.length_map] at hi
    have e2 : gapN gs p = none := by unfold gapN; rw [if_neg (by omega)]
    rw [e2] at h
    exact h
def SpTells (C : Ct) : Prop := ∀ ns gs p n Q, ns.length = gs.length + 1 → ns[tellN gs p]? = some n → Q (.d (nmD n)) [some (.d (formD ns gs)), some (.d (.int p))] → C "tells" [.d (formD ns gs), .d (.int p)] Q
theorem tells_ok {T : Tab} (tm : T "mark" = some ⟨2, 2, B_mark, false⟩) (tt : T "tells" = some ⟨2, 7, B_tells, false⟩) : ∀ k, 2 ≤ k → SpTells (call T k) := lvl 2 fun j ns gs p n Q hl hn h => by
  have ma := mark_ok tm (j + 1) (by omega)
  refine run_call tt rfl ?_
  generalize call T (j + 1) = C at ma ⊢
  show forL _ _ _ _ _ _
  refine forL_inv _ (fun i s => ∃ o4 o5 o6, fr o4 ∧ fr o5 ∧ fr o6 ∧ i ≤ gs.findIdx (leP p) ∧ s = [some (.d (formD ns gs)), some (.d (.int p)), some (.d (.tup (ns.map nmD))), some (.d (.tup (gs.map gapD))), o4, o5, o6]) (fun i z s N hN hz hs => ?_) (fun s hs => ?_) _ ⟨none, none, none, fr.n, fr.n, fr.n, Nat.zero_le _, rfl⟩
  · obtain ⟨o4, o5, o6, f4, f5, f6, hi, rfl⟩ := hs
    obtain ⟨g, hg, rfl⟩ := enum_map hz
    refine ⟨[some (.d (formD ns gs)), some (.d (.int p)), some (.d (.tup (ns.map nmD))), some (.d (.tup (gs.map gapD))), some (.d (.int (i : Int))), some (.d (.int g.1)), some (.d (.int g.2))], tg12 rfl f4 rfl f5 rfl f6, ?_⟩
    refine ma _ _ _ ?_
    refine if_d (fun h1 => ?_) fun h1 => ?_
    · have e := fi_hit hi hg (decide_eq_true h1)
      have e2 : tellN gs p = i := e
      rw [e2] at hn
      exact ⟨_, atI_map_nat nmD hn, h⟩
    · exact hN _ ⟨_, _, _, fr.x, fr.x, fr.x, fi_miss hi hg (decide_eq_false h1), rfl⟩
  · obtain ⟨o4, o5, o6, f4, f5, f6, hi, rfl⟩ := hs
    rw [enumB_len, List.length_map] at hi
    have e : tellN gs p = gs.length := fi_end hi
    rw [e] at hn
    exact ⟨_, atI_last nmD (by rw [hl]; exact hn), h⟩
/-! ### three names alike but at one place -/
def SpNames3 (C : Ct) : Prop := ∀ h Q, Hand h → (∀ (w : Nat → List Nat) h', Hand h' → (∀ i, NameOk (w i)) → (∀ i j, i < j → j < 26 → w i ≠ w j) → Q (.l false ((List.range 3).map fun i => nmD (w i))) [some (.l true h')]) → C "_law_names" [.l true h] Q
theorem names3_ok {T : Tab} (t : DrawT T) (tn : T "_law_names" = some ⟨1, 7, B_l_names2, false⟩) : ∀ k, 4 ≤ k → SpNames3 (call T k) := lvl 4 fun j h Q hh hq => by
  have dr := draw_ok t (k := j + 3) (by omega)
  refine run_call tn rfl ?_
  generalize call T (j + 3) = C at dr ⊢
  refine dr _ _ _ hh (by decide) (by decide) fun v h1 hh1 v0 v1 => ?_
  refine dr _ _ _ hh1 (by omega) (small (by omega) (by omega)) fun at_ h2 hh2 a0 a1 => ?_
  obtain ⟨at_, rfl⟩ := Int.eq_ofNat_of_zero_le a0
  refine dr _ _ _ hh2 (by decide) (by decide) fun f h3 hh3 f0 f1 => ?_
  refine ⟨⟨by omega, by omega⟩, ?_⟩
  show compL _ _ _ _ _ _ _ _ _ _
  refine compL_inv _ (fun i acc s => ∃ cs h4, Hand h4 ∧ cs.length = i ∧ (∀ x ∈ cs, 97 ≤ x ∧ x ≤ 122) ∧ acc = cs.map chD ∧ s = [some (.l true h4), some (.d (.str "abcdefghijklmnopqrstuvwxyz")), some (.d (.int (1 + v))), some (.d (.int (at_ : Int))), some (.d (.int f)), none, none]) (fun i x acc s N hN hx hs => ?_) (fun acc s hs => ?_) _ ⟨[], h3, hh3, rfl, fun x hx => by simp at hx, rfl, rfl⟩
  · obtain ⟨cs, h4, hh4, hl, hc, rfl, rfl⟩ := hs
    obtain ⟨hi, rfl⟩ := rangeD_at hx
    refine ⟨_, rfl, ?_⟩
    refine dr _ _ _ hh4 (by decide) (by decide) fun u h5 hh5 u0 u1 => ?_
    refine ⟨Nat.le_of_ble_eq_true rfl, _, letters_atI u0 u1, ?_⟩
    refine ⟨_, _, rfl, ?_, ?_⟩
    · rw [List.length_map, hl]; show i < 16777216; omega
    · refine hN _ _ ⟨cs ++ [97 + u.toNat], h5, hh5, by simp [hl], fun x hx => ?_, by simp [chD], rfl⟩
      rcases List.mem_append.mp hx with hx | hx
      · exact hc x hx
      · rw [List.mem_singleton.mp hx]; omega
  · obtain ⟨cs, h4, hh4, hl, hc, rfl, rfl⟩ := hs
    rw [rangeD_len] at hl
    have hl1 : (cs.length : Int) = 1 + v := by omega
    have ha : at_ < cs.length := by omega
    let w : Nat → List Nat := fun j => cs.set at_ (97 + ((f + 5 * (j : Int)) % 26).toNat)
    have wl : ∀ j, (w j).length = cs.length := fun j => by simp [w]
    have wok : ∀ j, NameOk (w j) := fun j => by
      refine ⟨by rw [wl]; omega, by rw [wl]; omega, fun x hx => ?_⟩
      rcases List.mem_or_eq_of_mem_set hx with hx | rfl
      · exact hc x hx
      · omega
    have wne : ∀ i j, i < j → j < 26 → w i ≠ w j := fun i j h1 h2 e => by
      have e1 : (w i)[at_]? = some (97 + ((f + 5 * (i : Int)) % 26).toNat) := List.getElem?_set_self (by simpa using ha)
      have e2 : (w j)[at_]? = some (97 + ((f + 5 * (j : Int)) % 26).toNat) := List.getElem?_set_self (by simpa using ha)
      rw [e, e2] at e1
      have e3 := Option.some.inj e1
      omega
    refine ⟨cs.map fun c => (⟨#[c]⟩ : Str), strs_chD cs, ?_, ?_⟩
    · rw [sum_ones, List.length_map]
      show cs.length + cs.length * 0 ≤ 16777216
      omega
    rw [join_chars]
    refine ⟨⟨by decide, by decide⟩, ?_⟩
    show compL _ _ _ _ _ _ _ _ _ _
    refine compL_inv _ (fun i acc s => acc = (List.range i).map (fun k => nmD (w k)) ∧ s = [some (.l true h4), some (.d (.str "abcdefghijklmnopqrstuvwxyz")), some (.d (.int (1 + v))), some (.d (.int (at_ : Int))), some (.d (.int f)), some (.d (.str ⟨cs.toArray⟩)), none]) (fun i x acc s N hN hx hs => ?_) (fun acc s hs => ?_) _ ⟨rfl, rfl⟩
    · obtain ⟨rfl, rfl⟩ := hs
      obtain ⟨hi, rfl⟩ := rangeD_at hx
      have hi : i < 3 := hi
      refine ⟨_, rfl, ?_⟩
      have sz : (⟨cs.toArray⟩ : Str).length ≤ line := by show cs.toArray.size ≤ 16777216; rw [List.size_toArray]; omega
      have c1 : L2.cutS ⟨cs.toArray⟩ none (some (at_ : Int)) = ⟨(cs.take at_).toArray⟩ := cut_nm _ (by omega)
      have c2 : L2.cutS ⟨cs.toArray⟩ (some ((at_ : Int) + 1)) none = ⟨(cs.drop (at_ + 1)).toArray⟩ := by
        rw [cutS_eq, show ((at_ : Int) + 1) = ((at_ + 1 : Nat) : Int) by omega, cut_from (by omega)]
      refine ⟨sz, ?_⟩
      rw [c1]
      refine ⟨.inl (by decide), by decide, Nat.le_of_ble_eq_true rfl, _, letters_atI (Int.emod_nonneg _ (by decide)) (Int.emod_lt_of_pos _ (by decide)), ?_⟩
      refine ⟨?_, sz, ?_⟩
      · show (cs.take at_).toArray.size + 1 ≤ 16777216
        rw [List.size_toArray, List.length_take]; omega
      rw [c2]
      have e1 : (⟨(cs.take at_).toArray⟩ : Str) ++ ⟨#[97 + ((f + 5 * (0 + (i : Int))) % 26).toNat]⟩ = ⟨(cs.take at_ ++ [97 + ((f + 5 * (0 + (i : Int))) % 26).toNat]).toArray⟩ := str_app _ [_]
      rw [e1]
      refine ⟨?_, ?_⟩
      · show (cs.take at_ ++ [_]).toArray.size + (cs.drop (at_ + 1)).toArray.size ≤ 16777216
        simp
        omega
      rw [str_app]
      refine ⟨_, _, rfl, ?_, ?_⟩
      · rw [List.length_map, List.length_range]; show i < 16777216; omega
      · refine hN _ _ ⟨?_, rfl⟩
        rw [List.range_succ, List.map_append]
        have e2 : cs.take at_ ++ [97 + ((f + 5 * (0 + (i : Int))) % 26).toNat] ++ cs.drop (at_ + 1) = w i := by
          show _ = cs.set at_ _
          rw [List.set_eq_take_append_cons_drop, if_pos ha, Int.zero_add]
          simp
        rw [e2]
        rfl
    · obtain ⟨rfl, rfl⟩ := hs
      exact hq w h4 hh4 wok wne
end Itp

/-! Strs: drawn cases; stretches, borders, forms of cases. -/
namespace Itp
open PySem
/-! ### drawn cases -/
structure CasesOk (cs : List Case) : Prop where
  inc : cs.Pairwise fun a b => a.1 < b.1
  nm : NamesOk cs
  far : ∀ c ∈ cs, -(10 ^ 60) ≤ c.1 ∧ c.1 ≤ 10 ^ 60
def SpCases (C : Ct) : Prop := ∀ h (lim : Int) Q, Hand h → 1 ≤ lim → lim ≤ 60 → (∀ cs h', Hand h' → CasesOk cs → 1 ≤ cs.length → (cs.length : Int) ≤ lim → Q (.l false (cs.map caseD)) [some (.l true h'), some (.d (.int lim))]) → C "_law_cases" [.l true h, .d (.int lim)] Q
theorem nmD_ok' {n : List Nat} (h : NameOk n) : (nmD n).plain = true ∧ (nmD n).py.canLay0 = true ∧ (nmD n).py.depth ≤ 0 := ⟨rfl, SeqAt.canLay_of_shaped (nmD_ok h).2, Nat.le_refl _⟩
theorem nms_ok {l : List (List Nat)} (h : ∀ n ∈ l, NameOk n) : (D.lst (l.map nmD)).ok := ok_lst (n := 0) (by decide) fun x hx => by
  obtain ⟨n, hn, rfl⟩ := List.mem_map.mp hx
  exact nmD_ok' (h n hn)
theorem isE_map {α : Type} (f : α → D) (l : List α) : (l.map f).isEmpty = l.isEmpty := by cases l <;> rfl
theorem cases_ok0 {T : Tab} (t : DrawT T) (tn : T "_law_names" = some ⟨2, 8, B_l_names, false⟩) (tc : T "_law_cases" = some ⟨2, 12, B_l_cases, false⟩) : ∀ k, 5 ≤ k → SpCases (call T k) := lvl 5 fun j h lim Q hh l0 l1 hq => by
  have dr := draw_ok t (k := j + 4) (by omega)
  have nm := names_ok t tn (j + 4) (by omega)
  refine run_call tc rfl ?_
  generalize call T (j + 4) = C at dr nm ⊢
  refine ⟨Nat.le_of_ble_eq_true rfl, ?_⟩
  refine dr _ _ _ hh (by decide) (by decide) fun v h1 hh1 v0 v1 => ?_
  obtain ⟨n, hn, en⟩ := atI_ints (ns := [2, 3, 4, 2, 1]) v0 (by simpa using v1)
  refine ⟨_, en, ?_⟩
  have hn' : 1 ≤ n ∧ n ≤ 4 := by
    simp at hn
    omega
  obtain ⟨n, rfl⟩ := Int.eq_ofNat_of_zero_le (show 0 ≤ n by omega)
  refine nm _ n _ hh1 (by omega) (by omega) fun l h2 hh2 hl nd ok => ?_
  refine ⟨⟨by decide, by decide, by decide⟩, ⟨by decide, by decide, by decide⟩, .inl (by decide), Nat.le_of_ble_eq_true rfl, ?_⟩
  refine dr _ _ _ hh2 (by decide) (by decide) fun u h3 hh3 u0 u1 => ?_
  obtain ⟨W, hW, eW⟩ := atI_ints (ns := [2, 4, 12, 10 ^ (9 : Int).toNat, 3 * 10 ^ (58 : Int).toNat]) u0 (by simpa using u1)
  refine ⟨_, eW, ?_⟩
  have hW' : 2 ≤ W ∧ W ≤ 3 * 10 ^ 58 := by
    rw [p9, p58] at hW
    simp at hW
    rcases hW with rfl | rfl | rfl | rfl | rfl <;> decide
  clear hW eW
  obtain ⟨W0, W1⟩ := hW'
  refine ⟨⟨by decide, by decide, by decide⟩, .inl (by decide), .inl (by omega), ?_⟩
  have P0 : 0 ≤ lim * W := Int.mul_nonneg (by omega) (by omega)
  have P1 : lim * W ≤ 60 * (3 * 10 ^ 58) := Int.mul_le_mul l1 W1 (by omega) (by decide)
  generalize hP : lim * W = P at P0 P1 ⊢
  refine dr _ _ _ hh3 (by rw [p60]; omega) (small (by rw [p60]; omega) (by rw [p60]; omega)) fun a h4 hh4 a0 a1 => ?_
  refine ⟨⟨by decide, by decide, by decide⟩, ?_⟩
  refine dr _ _ _ hh4 (by decide) (by decide) fun b h5 hh5 b0 b1 => ?_
  refine ⟨Nat.le_of_ble_eq_true rfl, ?_⟩
  rw [p60] at a1
  refine dr _ _ _ hh5 (by decide) (by decide) fun c h6 hh6 c0 c1 => ?_
  obtain ⟨z, hz, ez⟩ := atI_ints (ns := [0, 2 * 10 ^ (60 : Int).toNat + 1 - P, a, if 10 ^ (60 : Int).toNat - b < 2 * 10 ^ (60 : Int).toNat + 1 - P then 10 ^ (60 : Int).toNat - b else 2 * 10 ^ (60 : Int).toNat + 1 - P]) c0 (by simpa using c1)
  refine ⟨_, ez, ⟨by decide, by decide, by decide⟩, ?_⟩
  have hz' : 0 ≤ z ∧ z ≤ 2 * 10 ^ 60 + 1 - P := by
    rw [p60] at hz
    simp only [List.mem_cons, List.not_mem_nil, or_false] at hz
    rcases hz with rfl | rfl | rfl | rfl
    · omega
    · omega
    · omega
    · split <;> omega
  clear hz ez
  obtain ⟨z0, z1⟩ := hz'
  rw [p60]
  refine ⟨Nat.le_of_ble_eq_true rfl, ?_⟩
  obtain ⟨x, xs, rfl⟩ : ∃ x xs, l = x :: xs := by
    cases l with
    | nil => simp at hl; omega
    | cons x xs => exact ⟨x, xs, rfl⟩
  refine ⟨nmD x, atI_zero nmD x xs, ?_⟩
  refine dr _ _ _ hh6 (by omega) (small (by omega) (by omega)) fun m h7 hh7 m0 m1 => ?_
  refine ⟨⟨by omega, by omega⟩, ?_⟩
  show forL _ _ _ _ _ _
  refine forL_inv _ (fun i s => ∃ h pl cs y o9 o10, Hand h ∧ fr o9 ∧ fr o10 ∧ cs.length = i ∧ cs.Pairwise (fun a b : Case => a.1 < b.1) ∧ NamesOk cs ∧ (∀ c ∈ cs, -(10 ^ 60) ≤ c.1 ∧ c.1 ≤ pl) ∧ NameOk y ∧ -(10 ^ 60) - 1 ≤ pl ∧ pl ≤ z - 10 ^ 60 - 1 + (i : Int) * W ∧
    s = [some (.l true h), some (.d (.int lim)), some (.d (.lst ((x :: xs).map nmD))), some (.d (.int W)), some (.d (.int (2 * 10 ^ 60 + 1 - P))), some (.d (.lst [.int 0, .int (2 * 10 ^ 60 + 1 - P), .int a, .int (if 10 ^ 60 - b < 2 * 10 ^ 60 + 1 - P then 10 ^ 60 - b else 2 * 10 ^ 60 + 1 - P)])), some (.d (.int pl)), some (.l false (cs.map caseD)), some (.d (nmD y)), o9, o10, none]) (fun i q s N hN hx hs => ?_) (fun s hs => ?_) _
    ⟨h7, z - 10 ^ 60 - 1, [], x, none, none, hh7, fr.n, fr.n, rfl, .nil, fun c hc => by simp at hc, fun c hc => by simp at hc, ok x List.mem_cons_self, by omega, by simp, rfl⟩
  · obtain ⟨h, pl, cs, y, o9, o10, hh, f9, f10, ll, inc, nok, far, yok, p0, p1, rfl⟩ := hs
    obtain ⟨hi, rfl⟩ := rangeD_at hx
    have hi : i < (1 + m).toNat := hi
    refine ⟨_, put_fr rfl f9, ?_⟩
    refine dr _ _ _ hh (by omega) (small (by omega) (by omega)) fun d h8 hh8 d0 d1 => ?_
    have eW : ((i + 1 : Nat) : Int) * W = (i : Int) * W + W := by
      rw [show ((i + 1 : Nat) : Int) = (i : Int) + 1 by omega, Int.add_mul, Int.one_mul]
    show compL _ _ _ _ _ _ _ _ _ _
    refine compL_inv _ (fun i' acc s => ∃ os : List (List Nat), (∀ o ∈ os, NameOk o) ∧ os.length ≤ i' ∧ acc = os.map nmD ∧ s = [some (.l true h8), some (.d (.int lim)), some (.d (.lst ((x :: xs).map nmD))), some (.d (.int W)), some (.d (.int (2 * 10 ^ 60 + 1 - P))), some (.d (.lst [.int 0, .int (2 * 10 ^ 60 + 1 - P), .int a, .int (if 10 ^ 60 - b < 2 * 10 ^ 60 + 1 - P then 10 ^ 60 - b else 2 * 10 ^ 60 + 1 - P)])), some (.d (.int (pl + (1 + d)))), some (.l false (cs.map caseD)), some (.d (nmD y)), some (.d (.int (0 + (i : Int)))), o10, none]) (fun i' q acc s M hM hx' hs => ?_) (fun acc s hs => ?_) _ ⟨[], fun o ho => by simp at ho, Nat.le_refl _, rfl, rfl⟩
    · obtain ⟨os, hos, hol, rfl, rfl⟩ := hs
      obtain ⟨o, ho, rfl⟩ := mapD_at hx'
      have hi2 := (List.getElem?_eq_some_iff.mp ho).1
      refine ⟨_, rfl, ?_⟩
      refine if_b (fun _ => ?_) fun _ => ?_
      · refine ⟨_, _, rfl, ?_, ?_⟩
        · rw [List.length_map]
          show os.length < 16777216
          have : (x :: xs).length = n := hl
          omega
        · refine hM _ _ ⟨os ++ [o], fun o' h' => ?_, by simp; omega, by simp, rfl⟩
          rcases List.mem_append.mp h' with h' | h'
          · exact hos o' h'
          · rw [List.mem_singleton.mp h']; exact ok o (List.mem_of_getElem? ho)
      · exact hM _ _ ⟨os, hos, by omega, rfl, rfl⟩
    · obtain ⟨os, hos, hol, rfl, rfl⟩ := hs
      show putK _ _ _ _
      refine putK_of rfl f10 ?_
      have rest : ∀ h y', Hand h → NameOk y' → ob (frozAll [.v (.d (.tup [.int (pl + (1 + d)), nmD y']))] ([some (.l true h), some (.d (.int lim)), some (.d (.lst ((x :: xs).map nmD))), some (.d (.int W)), some (.d (.int (2 * 10 ^ 60 + 1 - P))), some (.d (.lst [.int 0, .int (2 * 10 ^ 60 + 1 - P), .int a, .int (if 10 ^ 60 - b < 2 * 10 ^ 60 + 1 - P then 10 ^ 60 - b else 2 * 10 ^ 60 + 1 - P)])), some (.d (.int (pl + (1 + d)))), some (.l false (cs.map caseD)), some (.d (nmD y')), some (.d (.int (0 + (i : Int)))), some (.d (.lst (os.map nmD))), none])) fun q => ownL q.2 7 fun p xs => muta .append xs q.1 fun _ ys => N (q.2.set 7 (some (.l p ys))) := by
        intro h y' hh' yok'
        refine ⟨?_, ?_⟩
        · rw [List.length_map]; show cs.length < 16777216; omega
        · refine hN _ ⟨h, pl + (1 + d), cs ++ [(pl + (1 + d), y')], y', _, _, hh', fr.x, fr.x, by simp [ll], ?_, ?_, ?_, yok', by omega, by rw [eW]; omega, by rw [List.map_append]; rfl⟩
          · refine List.pairwise_append.mpr ⟨inc, List.pairwise_singleton _ _, fun c hc c' hc' => ?_⟩
            rw [List.mem_singleton.mp hc']
            have := (far c hc).2
            show c.1 < pl + (1 + d)
            omega
          · intro c hc
            rcases List.mem_append.mp hc with hc | hc
            · exact nok c hc
            · rw [List.mem_singleton.mp hc]; exact yok'
          · intro c hc
            rcases List.mem_append.mp hc with hc | hc
            · have := far c hc
              omega
            · rw [List.mem_singleton.mp hc]
              show -(10 ^ 60) ≤ pl + (1 + d) ∧ pl + (1 + d) ≤ pl + (1 + d)
              omega
      refine ⟨Nat.zero_le _, nms_ok hos, nil_ok, ?_⟩
      show if (!PyData.eqv (D.lst (os.map nmD)).py (D.lst []).py) = true then _ else _
      rw [eqv_nil, isE_map]
      refine if_b (fun hne => ?_) fun _ => ?_
      · refine dr _ _ _ hh8 (by decide) (by decide) fun e h9 hh9 e0 e1 => ?_
        refine if_d (fun _ => ?_) fun _ => ?_
        · have pos : 0 < os.length := by
            cases os with
            | nil => cases hne
            | cons o os => exact Nat.succ_pos _
          refine dr _ _ _ hh9 ?_ (small ?_ ?_) fun f h10 hh10 f0 f1 => ?_
          · show (0 : Int) < ((os.map nmD).length : Int)
            rw [List.length_map]; omega
          · show (0 : Int) < ((os.map nmD).length : Int)
            rw [List.length_map]; omega
          · show ((os.map nmD).length : Int) ≤ 10 ^ 70
            rw [List.length_map]
            have : (x :: xs).length = n := hl
            rw [List.length_map] at hol
            omega
          rw [List.length_map] at f1
          obtain ⟨fn, y', rfl, hy', ey'⟩ := atI_mem nmD f0 f1
          refine ⟨_, ey', Nat.le_of_ble_eq_true rfl, ?_⟩
          exact rest _ _ hh10 (hos y' (List.mem_of_getElem? hy'))
        · refine ⟨Nat.le_of_ble_eq_true rfl, ?_⟩
          exact rest _ _ hh9 yok
      · refine ⟨Nat.le_of_ble_eq_true rfl, ?_⟩
        exact rest _ _ hh8 yok
  · obtain ⟨h, pl, cs, y, o9, o10, hh, f9, f10, ll, inc, nok, far, yok, p0, p1, rfl⟩ := hs
    rw [rangeD_len] at ll p1
    refine hq cs h hh ⟨inc, nok, fun c hc => ?_⟩ (by omega) (by omega)
    have h1 := far c hc
    have h2 : (((1 + m).toNat : Nat) : Int) * W ≤ lim * W := Int.mul_le_mul_of_nonneg_right (by omega) (by omega)
    rw [hP] at h2
    omega
/-! ### stretches -/
abbrev Stretch := Int × Int × List Nat
def strD (x : Stretch) : D := .tup [.int x.1, .int x.2.1, nmD x.2.2]
/-- the stretches from f on, c the last one so far -/
def runs : Int → Case → List Case → List Stretch
  | f, c, [] => [(f, c.1, c.2)]
  | f, c, d :: ds => if c.2 = d.2 then runs f d ds else (f, c.1, c.2) :: runs d.1 d ds
def gapsC : Case → List Case → List Gap
  | _, [] => []
  | c, d :: ds => if c.2 = d.2 then gapsC d ds else (c.1, d.1) :: gapsC d ds
def nmsC : Case → List Case → List (List Nat)
  | c, [] => [c.2]
  | c, d :: ds => if c.2 = d.2 then nmsC d ds else c.2 :: nmsC d ds
theorem runs_names : ∀ (f : Int) (c : Case) (ds : List Case), (runs f c ds).map (·.2.2) = nmsC c ds
  | _, _, [] => rfl
  | f, c, d :: ds => by
    unfold runs nmsC
    split
    · exact runs_names f d ds
    · rw [List.map_cons, runs_names d.1 d ds]
theorem runs_cons (f : Int) (c : Case) (ds : List Case) : ∃ l n t, runs f c ds = (f, l, n) :: t := by
  induction ds generalizing c f with
  | nil => exact ⟨_, _, _, rfl⟩
  | cons d ds ih =>
    unfold runs
    split
    · exact ih f d
    · exact ⟨_, _, _, rfl⟩
def bordsF : List Stretch → List Gap
  | x :: y :: t => (x.2.1, y.1) :: bordsF (y :: t)
  | _ => []
theorem runs_gaps : ∀ (f : Int) (c : Case) (ds : List Case), bordsF (runs f c ds) = gapsC c ds
  | _, _, [] => rfl
  | f, c, d :: ds => by
    unfold runs gapsC
    split
    · exact runs_gaps f d ds
    · have ih := runs_gaps d.1 d ds
      obtain ⟨l, n, t, e⟩ := runs_cons d.1 d ds
      rw [e] at ih ⊢
      show (c.1, d.1) :: bordsF ((d.1, l, n) :: t) = _
      rw [ih]
def strL : List Case → List Stretch
  | [] => []
  | c :: ds => runs c.1 c ds
def SpStr (C : Ct) : Prop := ∀ o (cs : List Case) Q, Lt o (cs.map caseD) → (cs.map (·.1)).Nodup → cs.length ≤ 10000 → NamesOk cs → Q (.l false ((strL (sortC cs)).map strD)) [some o] → C "stretches" [o] Q
theorem strs_ok {l : List Stretch} (h : ∀ x ∈ l, NameOk x.2.2) : (D.lst (l.map strD)).ok := ok_lst (n := 1) (by decide) fun x hx => by
  obtain ⟨y, hy, rfl⟩ := List.mem_map.mp hx
  have := nmD_ok' (h y hy)
  refine ⟨rfl, ?_, ?_⟩
  · show PyData.canLay0 (.tuple [.int y.1, .int y.2.1, (nmD y.2.2).py]) = true
    simp only [PyData.canLay0, PyData.canLayAll0, this.2.1, Bool.and_self]
  · simp [strD, nmD, D.py, D.pyAll, PyData.depth, PyData.depthAll]
theorem atI_neg1 {α : Type} (f : α → D) (A : List α) (x : α) : L2.atI ((A ++ [x]).map f) (-1) = some (f x) := atI_last f (by simp)
theorem stretches_ok {T : Tab} (ts : T "stretches" = some ⟨1, 5, B_stretches, false⟩) : ∀ k, 1 ≤ k → SpStr (call T k) := lvl 1 fun j o cs Q ho nd hl nok hq => by
  refine run_call ts rfl ?_
  generalize call T j = C
  have nok0 := sortC_perm cs
  have rest : forL (.tp (.cons (.nm 2) (.cons (.nm 3) .nil))) (fun D s => normK s fun s => rS C (.ite (.and_ (.cmp .NotEq (.var 1) (.lst .nil)) (.cmp .Eq (.idx (.idx (.var 1) (.neg (.cst (.int 1)))) (.cst (.int 2))) (.var 3))) (.seq (.asg (.nm 4) (.idx (.chg .pop 1 .nil) (.cst (.int 0)))) (.ex (.chg .append 1 (.cons (.tup (.cons (.var 4) (.cons (.var 2) (.cons (.var 3) .nil)))) .nil)))) (.ex (.chg .append 1 (.cons (.tup (.cons (.var 2) (.cons (.var 2) (.cons (.var 3) .nil)))) .nil)))) D s) (unlock []) { rEnds 1 Q with nx := fun s1 => rS C (.ret (.var 1)) (rEnds 1 Q) s1 } ((sortC cs).map caseD) [some o, some (.l false []), none, none, none] := by
    have hls : (sortC cs).length ≤ 10000 := by rw [nok0.length_eq]; exact hl
    refine forL_inv _ (fun i s => ∃ o2 o3 o4 found, fr o2 ∧ fr o3 ∧ fr o4 ∧ found.length ≤ i ∧ s = [some o, some (.l false (found.map strD)), o2, o3, o4] ∧ ((i = 0 ∧ found = []) ∨ ∃ A f c, found = A ++ [(f, c.1, c.2)] ∧ strL (sortC cs) = A ++ runs f c ((sortC cs).drop i) ∧ ∀ x ∈ found, NameOk x.2.2)) (fun i z s N hN hz hs => ?_) (fun s hs => ?_) _ ⟨none, none, none, [], fr.n, fr.n, fr.n, Nat.le_refl _, rfl, .inl ⟨rfl, rfl⟩⟩
    · obtain ⟨o2, o3, o4, found, f2, f3, f4, fl, rfl, inv⟩ := hs
      obtain ⟨d, hd, rfl⟩ := mapD_at hz
      obtain ⟨hi, hd'⟩ := List.getElem?_eq_some_iff.mp hd
      have dr : (sortC cs).drop i = d :: (sortC cs).drop (i + 1) := by rw [List.drop_eq_getElem_cons hi, hd']
      refine ⟨[some o, some (.l false (found.map strD)), some (.d (.int d.1)), some (.d (nmD d.2)), o4], tg2 rfl f2 rfl f3, ?_⟩
      have dok : NameOk d.2 := nok d (nok0.mem_iff.mp (List.mem_of_getElem? hd))
      have new : ∀ A, found.length ≤ i → (A = found) → strL (sortC cs) = A ++ runs d.1 d ((sortC cs).drop (i + 1)) → (∀ x ∈ found, NameOk x.2.2) → ∀ o4, fr o4 → (found.map strD).length < line ∧ N [some o, some (.l false (found.map strD ++ [.tup [.int d.1, .int d.1, nmD d.2]])), some (.d (.int d.1)), some (.d (nmD d.2)), o4] := by
        intro A h1 h2 h3 h5 o4 f4
        refine ⟨?_, hN _ ⟨some (.d (.int d.1)), some (.d (nmD d.2)), o4, found ++ [(d.1, d.1, d.2)], fr.x, fr.x, f4, ?_, ?_, .inr ⟨A, d.1, d, by rw [h2], h3, fun x hx => ?_⟩⟩⟩
        · rw [List.length_map]; show found.length < 16777216; omega
        · simp; omega
        · rw [List.map_append]; rfl
        · rcases List.mem_append.mp hx with hx | hx
          · exact h5 x hx
          · rw [List.mem_singleton.mp hx]; exact dok
      rcases inv with ⟨rfl, rfl⟩ | ⟨A, f, c, rfl, e, ok⟩
      · refine ⟨Nat.zero_le _, nil_ok, nil_ok, ?_⟩
        refine ⟨Nat.le_of_ble_eq_true rfl, ?_⟩
        refine new [] (Nat.zero_le _) rfl ?_ (fun x hx => by simp at hx) o4 f4
        rw [show sortC cs = d :: (sortC cs).drop 1 by rw [← dr]; rfl]
        rfl
      · rw [dr] at e
        refine ⟨Nat.zero_le _, strs_ok ok, nil_ok, ?_⟩
        show if (!PyData.eqv (D.lst ((A ++ [(f, c.1, c.2)]).map strD)).py (D.lst []).py) = true then _ else _
        rw [eqv_nil, isE_map]
        refine if_b (fun _ => ?_) fun z => ?_
        · refine ⟨_, atI_neg1 strD A _, _, rfl, ?_⟩
          refine if_d (fun q => ?_) fun q => ?_
          · have q' : c.2 = d.2 := str_inj.mp q
            refine ⟨strD (f, c.1, c.2), ?_, _, rfl, ?_⟩
            · rw [List.map_append, List.length_append]
              simp
            show putK _ _ _ _
            refine putK_of rfl f4 ?_
            refine ⟨Nat.le_of_ble_eq_true rfl, ?_, ?_⟩
            · rw [List.length_dropLast, List.length_map]
              show _ - 1 < 16777216
              omega
            · refine hN _ ⟨some (.d (.int d.1)), some (.d (nmD d.2)), some (.d (.int f)), A ++ [(f, d.1, d.2)], fr.x, fr.x, fr.x, ?_, ?_, .inr ⟨A, f, d, rfl, ?_, ?_⟩⟩
              · simp at fl ⊢; omega
              · rw [List.map_append, List.map_append]
                simp [strD]
              · rw [e]
                show A ++ (if c.2 = d.2 then _ else _) = _
                rw [if_pos q']
              · intro x hx
                rcases List.mem_append.mp hx with hx | hx
                · exact ok x (List.mem_append_left _ hx)
                · rw [List.mem_singleton.mp hx]; exact dok
          · have q' : ¬ c.2 = d.2 := fun z => q (str_inj.mpr z)
            refine ⟨Nat.le_of_ble_eq_true rfl, ?_⟩
            refine new _ fl rfl ?_ ok o4 f4
            rw [e]
            show A ++ (if c.2 = d.2 then _ else _) = _
            rw [if_neg q', List.append_assoc]
            rfl
        · cases A <;> cases z
    · obtain ⟨o2, o3, o4, found, f2, f3, f4, fl, rfl, inv⟩ := hs
      have e : strL (sortC cs) = found := by
        rcases inv with ⟨z, rfl⟩ | ⟨A, f, c, rfl, e, _⟩
        · rw [List.length_map] at z
          rw [List.length_eq_zero_iff.mp z]
          rfl
        · rw [e, List.length_map, List.drop_length]
          rfl
      rw [e] at hq
      exact hq
  rcases ho with rfl | rfl
  · refine ⟨Nat.zero_le _, srtOk_cases hl, ?_⟩
    show forL _ _ _ _ _ _
    rw [srt_cases nd]
    exact rest
  · refine ⟨Nat.zero_le _, srtOk_cases hl, ?_⟩
    show forL _ _ _ _ _ _
    rw [srt_cases nd]
    exact rest
/-! ### borders, forms of cases -/
theorem zipB_at : ∀ {xs ys : List D} {i : Nat} {x : D}, (zipD xs ys)[i]? = some x → ∃ a b, xs[i]? = some a ∧ ys[i]? = some b ∧ x = .tup [a, b]
  | [], ys, i, x, h => by simp [zipD] at h
  | x :: xs, [], i, y, h => by simp [zipD] at h
  | x :: xs, y :: ys, 0, z, h => by simp [zipD] at h; exact ⟨x, y, rfl, rfl, h.symm⟩
  | x :: xs, y :: ys, i + 1, z, h => by simpa using zipB_at (xs := xs) (ys := ys) (i := i) (x := z) (by simpa [zipD] using h)
theorem zipB_len : ∀ {xs ys : List D}, (zipD xs ys).length = min xs.length ys.length
  | [], ys => by simp [zipD]
  | x :: xs, [] => by simp [zipD]
  | x :: xs, y :: ys => by simp [zipD, zipB_len (xs := xs) (ys := ys)]
theorem bordsF_at : ∀ {L : List Stretch} {i : Nat} {x y : Stretch}, L[i]? = some x → L[i + 1]? = some y → (bordsF L)[i]? = some (x.2.1, y.1)
  | [], i, x, y, h, _ => by simp at h
  | [a], i, x, y, h, h2 => by simp at h2
  | a :: b :: t, 0, x, y, h, h2 => by simp at h h2; subst h h2; rfl
  | a :: b :: t, i + 1, x, y, h, h2 => by
    have := bordsF_at (L := b :: t) (i := i) (x := x) (y := y) (by simpa using h) (by simpa using h2)
    simpa [bordsF] using this
theorem bordsF_len : ∀ (L : List Stretch), (bordsF L).length = L.length - 1
  | [] => rfl
  | [a] => rfl
  | a :: b :: t => by
    have := bordsF_len (b :: t)
    simp [bordsF] at this ⊢
    omega
def gapsL (cs : List Case) : List Gap := bordsF (strL cs)
def SpBord (C : Ct) : Prop := ∀ o (cs : List Case) Q, Lt o (cs.map caseD) → (cs.map (·.1)).Nodup → cs.length ≤ 10000 → NamesOk cs → Q (.l false ((gapsL (sortC cs)).map gapD)) [some o] → C "borders" [o] Q
theorem runs_len : ∀ (f : Int) (c : Case) (ds : List Case), (runs f c ds).length ≤ ds.length + 1
  | _, _, [] => Nat.le_refl _
  | f, c, d :: ds => by
    unfold runs
    split
    · have := runs_len f d ds; simp; omega
    · have := runs_len d.1 d ds; simp; omega
theorem strL_len (cs : List Case) : (strL cs).length ≤ cs.length := by
  cases cs with
  | nil => exact Nat.le_refl _
  | cons c ds => exact runs_len _ _ _
def nmsL (cs : List Case) : List (List Nat) := (strL cs).map (·.2.2)
theorem borders_ok {T : Tab} (ts : T "stretches" = some ⟨1, 5, B_stretches, false⟩) (tb : T "borders" = some ⟨1, 4, B_borders, false⟩) : ∀ k, 2 ≤ k → SpBord (call T k) := lvl 2 fun j o cs Q ho nd hl nok hq => by
  have st := stretches_ok ts (j + 1) (by omega)
  refine run_call tb rfl ?_
  generalize call T (j + 1) = C at st ⊢
  have ls : (strL (sortC cs)).length ≤ 10000 := Nat.le_trans (strL_len _) (by rw [(sortC_perm cs).length_eq]; exact hl)
  have rest : rS C (.ret (.comp [2, 3] (.tp (.cons (.nm 2) (.cons (.nm 3) .nil))) .zip (.cons (.var 1) (.cons (.slc (.var 1) (.cst (.int 1)) .nop) .nil)) .nop (.tup (.cons (.idx (.var 2) (.cst (.int 1))) (.cons (.idx (.var 3) (.cst (.int 0))) .nil))))) (rEnds 1 Q) [some o, some (.d (.lst ((strL (sortC cs)).map strD))), none, none] := by
    show compL _ _ _ _ _ _ _ _ _ _
    unfold gapsL at hq
    generalize hL : strL (sortC cs) = L at ls hq ⊢
    have ec : cut (L.map strD) (some 1) none = (L.drop 1).map strD := by
      rcases Nat.eq_zero_or_pos L.length with z | z
      · rw [List.length_eq_zero_iff.mp z]; rfl
      · rw [show (1 : Int) = ((1 : Nat) : Int) from rfl, cut_from (by rw [List.length_map]; exact z), List.map_drop]
    rw [ec]
    refine compL_inv _ (fun i acc s => acc = ((bordsF L).take i).map gapD ∧ s = [some o, some (.d (.lst (L.map strD))), none, none]) (fun i x acc s N hN hx hs => ?_) (fun acc s hs => ?_) _ ⟨rfl, rfl⟩
    · obtain ⟨rfl, rfl⟩ := hs
      obtain ⟨a, b, ha, hb, rfl⟩ := zipB_at hx
      obtain ⟨x, hx', rfl⟩ := mapD_at ha
      obtain ⟨y, hy, rfl⟩ := mapD_at hb
      rw [List.getElem?_drop, Nat.add_comm] at hy
      have hl2 := (List.getElem?_eq_some_iff.mp hx').1
      refine ⟨_, rfl, ?_⟩
      refine ⟨_, rfl, _, rfl, Nat.le_of_ble_eq_true rfl, ?_⟩
      refine ⟨_, _, rfl, ?_, ?_⟩
      · rw [List.length_map, List.length_take]
        show _ < 16777216
        omega
      · refine hN _ _ ⟨?_, rfl⟩
        rw [List.take_add_one, bordsF_at hx' hy, List.map_append]
        rfl
    · obtain ⟨rfl, rfl⟩ := hs
      rw [zipB_len, List.length_map, List.length_map, List.length_drop, List.take_of_length_le (by rw [bordsF_len]; omega)]
      exact hq
  rcases ho with rfl | rfl
  · refine st _ cs _ Lt.d nd hl nok ?_
    show rS _ _ _ _
    exact rest
  · refine st _ cs _ Lt.l nd hl nok ?_
    show rS _ _ _ _
    exact rest
/-- the form of cases: of the sorted ones -/
theorem nmsL_cons (c : Case) (ds : List Case) : nmsL (c :: ds) = nmsC c ds := runs_names _ _ _
theorem gapsL_cons (c : Case) (ds : List Case) : gapsL (c :: ds) = gapsC c ds := runs_gaps _ _ _
def SpFormOf (C : Ct) : Prop := ∀ o (cs : List Case) Q, Lt o (cs.map caseD) → (cs.map (·.1)).Nodup → cs.length ≤ 10000 → NamesOk cs → Q (.d (formD (nmsL (sortC cs)) (gapsL (sortC cs)))) [some o] → C "form_of" [o] Q
theorem form_of_ok {T : Tab} (ts : T "stretches" = some ⟨1, 5, B_stretches, false⟩) (tb : T "borders" = some ⟨1, 4, B_borders, false⟩) (tf : T "form_of" = some ⟨1, 4, B_form_of, false⟩) : ∀ k, 3 ≤ k → SpFormOf (call T k) := lvl 3 fun j o cs Q ho nd hl nok hq => by
  have st := stretches_ok ts (j + 2) (by omega)
  have bo := borders_ok ts tb (j + 2) (by omega)
  refine run_call tf rfl ?_
  generalize call T (j + 2) = C at st bo ⊢
  have ls : (strL (sortC cs)).length ≤ 10000 := Nat.le_trans (strL_len _) (by rw [(sortC_perm cs).length_eq]; exact hl)
  rcases ho with rfl | rfl
  · refine st _ cs _ Lt.d nd hl nok ?_
    show compL _ _ _ _ _ _ _ _ _ _
    refine compL_inv _ (fun i acc s => acc = (((strL (sortC cs)).take i).map fun x : Stretch => nmD x.2.2) ∧ s = [some (.d (.lst (cs.map caseD))), none, none, none]) (fun i x acc s N hN hx hs => ?_) (fun acc s hs => ?_) _ ⟨rfl, rfl⟩
    · obtain ⟨rfl, rfl⟩ := hs
      obtain ⟨y, hy, rfl⟩ := mapD_at hx
      refine ⟨_, rfl, _, _, rfl, ?_, ?_⟩
      · rw [List.length_map, List.length_take]; show _ < 16777216; omega
      · refine hN _ _ ⟨?_, rfl⟩
        rw [List.take_add_one, hy, List.map_append]; rfl
    · obtain ⟨rfl, rfl⟩ := hs
      rw [List.length_map, List.take_length]
      refine bo _ cs _ Lt.d nd hl nok ?_
      refine ⟨Nat.le_of_ble_eq_true rfl, ?_⟩
      have e : (strL (sortC cs)).map (fun x : Stretch => nmD x.2.2) = (nmsL (sortC cs)).map nmD := by unfold nmsL; rw [List.map_map]; rfl
      rw [e]
      exact hq
  · refine st _ cs _ Lt.l nd hl nok ?_
    show compL _ _ _ _ _ _ _ _ _ _
    refine compL_inv _ (fun i acc s => acc = (((strL (sortC cs)).take i).map fun x : Stretch => nmD x.2.2) ∧ s = [some (.l true (cs.map caseD)), none, none, none]) (fun i x acc s N hN hx hs => ?_) (fun acc s hs => ?_) _ ⟨rfl, rfl⟩
    · obtain ⟨rfl, rfl⟩ := hs
      obtain ⟨y, hy, rfl⟩ := mapD_at hx
      refine ⟨_, rfl, _, _, rfl, ?_, ?_⟩
      · rw [List.length_map, List.length_take]; show _ < 16777216; omega
      · refine hN _ _ ⟨?_, rfl⟩
        rw [List.take_add_one, hy, List.map_append]; rfl
    · obtain ⟨rfl, rfl⟩ := hs
      rw [List.length_map, List.take_length]
      refine bo _ cs _ Lt.l nd hl nok ?_
      refine ⟨Nat.le_of_ble_eq_true rfl, ?_⟩
      have e : (strL (sortC cs)).map (fun x : Stretch => nmD x.2.2) = (nmsL (sortC cs)).map nmD := by unfold nmsL; rw [List.map_map]; rfl
      rw [e]
      exact hq
/-! ### sorted cases: their form, what it tells -/
theorem nms_len : ∀ (c : Case) (ds : List Case), (nmsC c ds).length = (gapsC c ds).length + 1
  | _, [] => rfl
  | c, d :: ds => by
    unfold nmsC gapsC
    split
    · exact nms_len d ds
    · have := nms_len d ds; simp [this]
theorem nms_head : ∀ (c : Case) (ds : List Case), (nmsC c ds)[0]? = some c.2
  | _, [] => rfl
  | c, d :: ds => by
    unfold nmsC
    split
    · rename_i e; rw [nms_head d ds, e]
    · rfl
theorem nms_mem : ∀ (c : Case) (ds : List Case) (n : List Nat), n ∈ nmsC c ds → ∃ e ∈ c :: ds, e.2 = n
  | c, [], n, h => ⟨c, List.mem_cons_self, (List.mem_singleton.mp h).symm⟩
  | c, d :: ds, n, h => by
    unfold nmsC at h
    split at h
    · obtain ⟨e, a, b⟩ := nms_mem d ds n h
      exact ⟨e, List.mem_cons_of_mem _ a, b⟩
    · rcases List.mem_cons.mp h with h | h
      · exact ⟨c, List.mem_cons_self, h.symm⟩
      · obtain ⟨e, a, b⟩ := nms_mem d ds n h
        exact ⟨e, List.mem_cons_of_mem _ a, b⟩
/-- the gaps behind c: from c on, between places of the cases -/
theorem gaps_mem : ∀ (c : Case) (ds : List Case) (g : Gap), (c :: ds).Pairwise (fun a b => a.1 < b.1) → g ∈ gapsC c ds → c.1 ≤ g.1 ∧ g.1 < g.2 ∧ (∃ e ∈ c :: ds, e.1 = g.1) ∧ ∃ e ∈ c :: ds, e.1 = g.2
  | c, [], g, _, h => by simp [gapsC] at h
  | c, d :: ds, g, hp, h => by
    have hcd : c.1 < d.1 := (List.pairwise_cons.mp hp).1 d List.mem_cons_self
    have hp2 := (List.pairwise_cons.mp hp).2
    unfold gapsC at h
    have go : g ∈ gapsC d ds → c.1 ≤ g.1 ∧ g.1 < g.2 ∧ (∃ e ∈ c :: d :: ds, e.1 = g.1) ∧ ∃ e ∈ c :: d :: ds, e.1 = g.2 := fun h => by
      obtain ⟨a, b, ⟨e, c1, c2⟩, f, d1, d2⟩ := gaps_mem d ds g hp2 h
      exact ⟨by omega, b, ⟨e, List.mem_cons_of_mem _ c1, c2⟩, f, List.mem_cons_of_mem _ d1, d2⟩
    split at h
    · exact go h
    · rcases List.mem_cons.mp h with rfl | h
      · exact ⟨Int.le_refl _, hcd, ⟨c, List.mem_cons_self, rfl⟩, d, List.mem_cons_of_mem _ List.mem_cons_self, rfl⟩
      · exact go h
theorem form_cases : ∀ (c : Case) (ds : List Case), (c :: ds).Pairwise (fun a b => a.1 < b.1) → NamesOk (c :: ds) → FormOk (nmsC c ds) (gapsC c ds)
  | c, [], _, hn => ⟨rfl, fun n h => by rw [List.mem_singleton.mp h]; exact hn c List.mem_cons_self, fun i a b _ h => by simp [nmsC] at h, fun g h => by simp [gapsC] at h, .nil⟩
  | c, d :: ds, hp, hn => by
    have hcd : c.1 < d.1 := (List.pairwise_cons.mp hp).1 d List.mem_cons_self
    have hp2 := (List.pairwise_cons.mp hp).2
    have ih := form_cases d ds hp2 fun e he => hn e (List.mem_cons_of_mem _ he)
    unfold nmsC gapsC
    split
    · exact ih
    · rename_i ne
      refine ⟨by simp [ih.len], fun n h => ?_, fun i a b ha hb => ?_, fun g h => ?_, ?_⟩
      · rcases List.mem_cons.mp h with rfl | h
        · exact hn c List.mem_cons_self
        · exact ih.nm n h
      · cases i with
        | zero =>
          have ha' : c.2 = a := Option.some.inj ha
          have hb' : d.2 = b := Option.some.inj ((nms_head d ds).symm.trans (by simpa using hb))
          rw [← ha', ← hb']
          exact ne
        | succ i => exact ih.adj i a b (by simpa using ha) (by simpa using hb)
      · rcases List.mem_cons.mp h with rfl | h
        · exact hcd
        · exact ih.lt g h
      · exact List.pairwise_cons.mpr ⟨fun g hg => (gaps_mem d ds g hp2 hg).1, ih.ord⟩
theorem near_far {p : Int} {c : Case} : ∀ (ds : List Case), (∀ d ∈ ds, c.1 < d.1 ∧ 2 * p ≤ c.1 + d.1) → ds.foldl (nearF p) (some c) = some c
  | [], _ => rfl
  | d :: ds, h => by
    have := h d List.mem_cons_self
    rw [List.foldl_cons]
    have e : nearF p (some c) d = some c := by
      show (if (d.1 - p).natAbs < (c.1 - p).natAbs then some d else some c) = some c
      rw [if_neg (by omega)]
    rw [e]
    exact near_far ds fun d' h' => h d' (List.mem_cons_of_mem _ h')
/-- the nearest one of sorted cases -/
def nearC (p : Int) : Case → List Case → Case
  | c, [] => c
  | c, d :: ds => if 2 * p ≤ c.1 + d.1 then c else nearC p d ds
theorem near_fold {p : Int} : ∀ (c : Case) (ds : List Case), (c :: ds).Pairwise (fun a b => a.1 < b.1) → ds.foldl (nearF p) (some c) = some (nearC p c ds)
  | c, [], _ => rfl
  | c, d :: ds, hp => by
    have hc := (List.pairwise_cons.mp hp).1
    have hp2 := (List.pairwise_cons.mp hp).2
    unfold nearC
    split
    · rename_i h
      refine near_far _ fun e he => ?_
      have h1 := hc e he
      rcases List.mem_cons.mp he with rfl | he
      · exact ⟨h1, h⟩
      · have := (List.pairwise_cons.mp hp2).1 e he
        omega
    · rename_i h
      have hcd := hc d List.mem_cons_self
      rw [List.foldl_cons]
      have e : nearF p (some c) d = some d := by
        show (if (d.1 - p).natAbs < (c.1 - p).natAbs then some d else some c) = some d
        rw [if_pos (by omega)]
      rw [e]
      exact near_fold d ds hp2
theorem near_sorted {p : Int} {c : Case} {ds : List Case} (hp : (c :: ds).Pairwise fun a b => a.1 < b.1) : (c :: ds).foldl (nearF p) none = some (nearC p c ds) := near_fold c ds hp
/-- where a place is not above the first case's mark, the first gap is told -/
theorem tell_zero {gs : List Gap} {p : Int} (h : ∀ g ∈ gs, p ≤ g.1 ∧ g.1 < g.2) : tellN gs p = 0 := by
  unfold tellN
  cases gs with
  | nil => rfl
  | cons g gs =>
    have := h g List.mem_cons_self
    rw [List.findIdx_cons, show leP p g = true from decide_eq_true (show p ≤ (g.1 + g.2) / 2 by omega)]
    rfl
theorem tell_near : ∀ (c : Case) (ds : List Case) (p : Int), (c :: ds).Pairwise (fun a b => a.1 < b.1) → (nmsC c ds)[tellN (gapsC c ds) p]? = some (nearC p c ds).2
  | c, [], p, _ => rfl
  | c, d :: ds, p, hp => by
    have hcd : c.1 < d.1 := (List.pairwise_cons.mp hp).1 d List.mem_cons_self
    have hp2 := (List.pairwise_cons.mp hp).2
    have ih := tell_near d ds p hp2
    unfold nmsC gapsC nearC
    by_cases e : c.2 = d.2
    · rw [if_pos e, if_pos e]
      by_cases h : 2 * p ≤ c.1 + d.1
      · rw [if_pos h, e, ← nms_head d ds, tell_zero fun g hg => ?_]
        have := gaps_mem d ds g hp2 hg
        omega
      · rw [if_neg h]; exact ih
    · rw [if_neg e, if_neg e]
      unfold tellN
      rw [List.findIdx_cons]
      by_cases h : 2 * p ≤ c.1 + d.1
      · rw [if_pos h, show leP p (c.1, d.1) = true from decide_eq_true (show p ≤ (c.1 + d.1) / 2 by omega)]
        rfl
      · rw [if_neg h, show leP p (c.1, d.1) = false from decide_eq_false (show ¬ p ≤ (c.1 + d.1) / 2 by omega)]
        exact ih
end Itp

/-! Strs2: the law's own look at sorted cases: their form, the nearest one, places by them. -/
namespace Itp
open PySem
def nmA (L : List Case) (k : Nat) : List Nat := (L.getD k (0, [])).2
def plA (L : List Case) (k : Nat) : Int := (L.getD k (0, [])).1
def edgesN (L : List Case) : List Nat := (List.range (L.length - 1)).filter fun k => decide (nmA L k ≠ nmA L (k + 1))
theorem edges_cons (c d : Case) (ds : List Case) : edgesN (c :: d :: ds) = (if c.2 = d.2 then [] else [0]) ++ (edgesN (d :: ds)).map (· + 1) := by
  unfold edgesN
  have e : (c :: d :: ds).length - 1 = (d :: ds).length - 1 + 1 := by simp
  rw [e, List.range_succ_eq_map, List.filter_cons, List.filter_map]
  have e2 : ((fun k => decide (nmA (c :: d :: ds) k ≠ nmA (c :: d :: ds) (k + 1))) ∘ Nat.succ) = fun k => decide (nmA (d :: ds) k ≠ nmA (d :: ds) (k + 1)) := by
    funext k
    rfl
  rw [e2]
  by_cases h : c.2 = d.2
  · rw [if_pos h, if_neg (by simpa [nmA] using h)]
    rfl
  · rw [if_neg h, if_pos (by simpa [nmA] using h)]
    rfl
theorem edges_names : ∀ (c : Case) (ds : List Case), (edgesN (c :: ds)).map (nmA (c :: ds)) ++ [nmA (c :: ds) ds.length] = nmsC c ds
  | c, [] => rfl
  | c, d :: ds => by
    rw [edges_cons, List.map_append, List.map_map]
    have e : (nmA (c :: d :: ds) ∘ fun x => x + 1) = nmA (d :: ds) := by funext k; rfl
    have ih := edges_names d ds
    have e2 : nmA (c :: d :: ds) (d :: ds).length = nmA (d :: ds) ds.length := rfl
    rw [e, e2, List.append_assoc, ih]
    show _ = (if c.2 = d.2 then nmsC d ds else c.2 :: nmsC d ds)
    by_cases h : c.2 = d.2
    · rw [if_pos h, if_pos h]
      rfl
    · rw [if_neg h, if_neg h]
      rfl
theorem edges_gaps : ∀ (c : Case) (ds : List Case), (edgesN (c :: ds)).map (fun k => (plA (c :: ds) k, plA (c :: ds) (k + 1))) = gapsC c ds
  | c, [] => rfl
  | c, d :: ds => by
    rw [edges_cons, List.map_append, List.map_map]
    have e : ((fun k => (plA (c :: d :: ds) k, plA (c :: d :: ds) (k + 1))) ∘ fun x => x + 1) = fun k => (plA (d :: ds) k, plA (d :: ds) (k + 1)) := by funext k; rfl
    rw [e, edges_gaps d ds]
    show _ = (if c.2 = d.2 then gapsC d ds else (c.1, d.1) :: gapsC d ds)
    by_cases h : c.2 = d.2
    · rw [if_pos h, if_pos h]
      rfl
    · rw [if_neg h, if_neg h]
      rfl
theorem edges_lt {L : List Case} {k : Nat} (h : k ∈ edgesN L) : k + 1 < L.length := by
  unfold edgesN at h
  have := List.mem_range.mp (List.mem_filter.mp h).1
  omega
theorem edges_le (L : List Case) : (edgesN L).length ≤ L.length := by
  unfold edgesN
  refine Nat.le_trans (List.length_filter_le _ _) ?_
  rw [List.length_range]; omega
theorem at_plA {L : List Case} {k : Nat} (h : k < L.length) : L[k]? = some (plA L k, nmA L k) := by
  unfold plA nmA
  rw [List.getD_eq_getElem?_getD, List.getElem?_eq_getElem h]
  rfl
def natD (k : Nat) : D := .int (k : Int)
theorem filter_succ (P : Nat → Bool) (i : Nat) : (List.range (i + 1)).filter P = (List.range i).filter P ++ (if P i = true then [i] else []) := by
  rw [List.range_succ, List.filter_append]
  congr 1
  cases h : P i
  · simp [h]
  · simp [h]
def SpFormLaw (C : Ct) : Prop := ∀ (c : Case) (ds : List Case) Q, ds.length ≤ 1000 → Q (.d (formD (nmsC c ds) (gapsC c ds))) [some (.d (.lst ((c :: ds).map caseD)))] → C "_law_form" [.d (.lst ((c :: ds).map caseD))] Q
theorem nmA_at {L : List Case} {k : Nat} (h : k < L.length) : L2.atI (L.map caseD) (k : Int) = some (caseD (plA L k, nmA L k)) := atI_map_nat caseD (at_plA h)
theorem form_law {T : Tab} (tf : T "_law_form" = some ⟨1, 4, B_l_form3, false⟩) : ∀ k, 1 ≤ k → SpFormLaw (call T k) := lvl 1 fun j c ds Q hl hq => by
  refine run_call tf rfl ?_
  generalize call T j = C
  rw [← edges_names, ← edges_gaps] at hq
  generalize hL : c :: ds = L at hq ⊢
  have ln : L.length = ds.length + 1 := by rw [← hL]; rfl
  refine ⟨⟨by rw [List.length_map]; omega, by rw [List.length_map]; omega⟩, ?_⟩
  show compL _ _ _ _ _ _ _ _ _ _
  refine compL_inv _ (fun i acc s => i ≤ L.length - 1 ∧ acc = ((List.range i).filter fun k => decide (nmA L k ≠ nmA L (k + 1))).map natD ∧ s = [some (.d (.lst (L.map caseD))), none, none, none]) (fun i x acc s N hN hx hs => ?_) (fun acc s hs => ?_) _ ⟨Nat.zero_le _, rfl, rfl⟩
  · obtain ⟨hi, rfl, rfl⟩ := hs
    obtain ⟨hi', rfl⟩ := rangeD_at hx
    rw [List.length_map] at hi'
    have hi2 : i + 1 < L.length := by omega
    refine ⟨_, rfl, ?_⟩
    have e0 : L2.atI (L.map caseD) (0 + (i : Int)) = some (caseD (plA L i, nmA L i)) := by rw [Int.zero_add]; exact nmA_at (by omega)
    have e1 : L2.atI (L.map caseD) (0 + (i : Int) + 1) = some (caseD (plA L (i + 1), nmA L (i + 1))) := by
      rw [show (0 + (i : Int)) + 1 = ((i + 1 : Nat) : Int) by omega]; exact nmA_at hi2
    refine ⟨_, e0, _, rfl, ?_⟩
    refine ⟨_, e1, _, rfl, ?_⟩
    refine if_nd (fun h => ?_) fun h => ?_
    · have h' : nmA L i ≠ nmA L (i + 1) := fun z => h (str_inj.mpr z)
      refine ⟨_, _, rfl, ?_, hN _ _ ⟨by omega, ?_, rfl⟩⟩
      · rw [List.length_map]
        have := List.length_filter_le (fun k => decide (nmA L k ≠ nmA L (k + 1))) (List.range i)
        rw [List.length_range] at this
        show _ < 16777216
        omega
      · rw [filter_succ, if_pos (decide_eq_true h'), List.map_append]
        show _ ++ [D.int (0 + (i : Int))] = _
        rw [Int.zero_add]; rfl
    · have h' : ¬ nmA L i ≠ nmA L (i + 1) := fun z => z (str_inj.mp h)
      refine hN _ _ ⟨by omega, ?_, rfl⟩
      rw [filter_succ, if_neg (by simpa using h'), List.append_nil]
  obtain ⟨hi, rfl, rfl⟩ := hs
  rw [rangeD_len]
  have en : ((((L.map caseD).length : Nat) : Int) - 1).toNat = L.length - 1 := by rw [List.length_map]; omega
  rw [en]
  have el := edges_le L
  show compL _ _ _ _ _ _ _ _ _ _
  have fold : (List.range (L.length - 1)).filter (fun k => decide (nmA L k ≠ nmA L (k + 1))) = edgesN L := rfl
  rw [fold]
  refine compL_inv _ (fun i acc s => acc = ((edgesN L).take i).map (fun k => nmD (nmA L k)) ∧ s = [some (.d (.lst (L.map caseD))), some (.d (.lst ((edgesN L).map natD))), none, none]) (fun i x acc s N hN hx hs => ?_) (fun acc s hs => ?_) _ ⟨rfl, rfl⟩
  · obtain ⟨rfl, rfl⟩ := hs
    obtain ⟨k, hk, rfl⟩ := mapD_at hx
    have hkl := edges_lt (List.mem_of_getElem? hk)
    refine ⟨_, rfl, ?_⟩
    refine ⟨_, nmA_at (show k < L.length by omega), _, rfl, ?_⟩
    refine ⟨_, _, rfl, ?_, hN _ _ ⟨?_, rfl⟩⟩
    · rw [List.length_map, List.length_take]; show _ < 16777216; omega
    · rw [List.take_add_one, hk, List.map_append]; rfl
  obtain ⟨ea, rfl⟩ := hs
  rw [List.length_map, List.take_length] at ea
  subst ea
  have e1 : L2.atI (L.map caseD) (-1) = some (caseD (plA L (L.length - 1), nmA L (L.length - 1))) := atI_last caseD (at_plA (by omega))
  refine ⟨_, e1, _, rfl, Nat.le_of_ble_eq_true rfl, ?_, ?_⟩
  · show _ ≤ 16777216
    rw [List.length_map]; show (edgesN L).length + 1 ≤ 16777216; omega
  have e2 : (edgesN L).map (fun k => nmD (nmA L k)) ++ [nmD (nmA L (L.length - 1))] = ((edgesN L).map (nmA L) ++ [nmA L ds.length]).map nmD := by
    rw [List.map_append, List.map_map, ln]; rfl
  rw [e2]
  show compL _ _ _ _ _ _ _ _ _ _
  refine compL_inv _ (fun i acc s => acc = ((edgesN L).take i).map (fun k => gapD (plA L k, plA L (k + 1))) ∧ s = [some (.d (.lst (L.map caseD))), some (.d (.lst ((edgesN L).map natD))), some (.d (.lst (((edgesN L).map (nmA L) ++ [nmA L ds.length]).map nmD))), none]) (fun i x acc s N hN hx hs => ?_) (fun acc s hs => ?_) _ ⟨rfl, rfl⟩
  · obtain ⟨rfl, rfl⟩ := hs
    obtain ⟨k, hk, rfl⟩ := mapD_at hx
    have hkl := edges_lt (List.mem_of_getElem? hk)
    refine ⟨_, rfl, ?_⟩
    have e1 : L2.atI (L.map caseD) ((k : Int) + 1) = some (caseD (plA L (k + 1), nmA L (k + 1))) := by
      rw [show ((k : Int)) + 1 = ((k + 1 : Nat) : Int) by omega]; exact nmA_at hkl
    refine ⟨_, nmA_at (show k < L.length by omega), _, rfl, _, e1, _, rfl, Nat.le_of_ble_eq_true rfl, ?_⟩
    refine ⟨_, _, rfl, ?_, hN _ _ ⟨?_, rfl⟩⟩
    · rw [List.length_map, List.length_take]; show _ < 16777216; omega
    · show ((edgesN L).take i).map (fun k => gapD (plA L k, plA L (k + 1))) ++ [gapD (plA L k, plA L (k + 1))] = _
      rw [List.take_add_one, hk, List.map_append]; rfl
  obtain ⟨ea, rfl⟩ := hs
  rw [List.length_map, List.take_length] at ea
  subst ea
  refine ⟨Nat.le_of_ble_eq_true rfl, ?_⟩
  have e3 : (edgesN L).map (fun k => gapD (plA L k, plA L (k + 1))) = ((edgesN L).map fun k => (plA L k, plA L (k + 1))).map gapD := by rw [List.map_map]; rfl
  rw [e3]
  exact hq
/-! ### a form is the due one -/
theorem gaps_okx (g : Gap) : (gapD g).plain = true ∧ (gapD g).py.canLay0 = true ∧ (gapD g).py.depth ≤ 1 := ⟨rfl, rfl, by simp [gapD, D.py, D.pyAll, PyData.depth, PyData.depthAll]⟩
theorem tup_okx {xs : List D} {n : Nat} (h : ∀ x ∈ xs, x.plain = true ∧ x.py.canLay0 = true ∧ x.py.depth ≤ n) : (D.tup xs).plain = true ∧ (D.tup xs).py.canLay0 = true ∧ (D.tup xs).py.depth ≤ n + 1 := by
  refine ⟨?_, ?_, ?_⟩
  · rw [D.plain]; exact plainAll_of fun x hx => (h x hx).1
  · rw [D.py, PyData.canLay0]; exact layAll_of fun x hx => (h x hx).2.1
  · rw [D.py, PyData.depth]
    have := depthAll_of fun x hx => (h x hx).2.2
    omega
theorem lst_okx {xs : List D} {n : Nat} (h : ∀ x ∈ xs, x.plain = true ∧ x.py.canLay0 = true ∧ x.py.depth ≤ n) : (D.lst xs).plain = true ∧ (D.lst xs).py.canLay0 = true ∧ (D.lst xs).py.depth ≤ n + 1 := by
  refine ⟨?_, ?_, ?_⟩
  · rw [D.plain]; exact plainAll_of fun x hx => (h x hx).1
  · rw [D.py, PyData.canLay0]; exact layAll_of fun x hx => (h x hx).2.1
  · rw [D.py, PyData.depth]
    have := depthAll_of fun x hx => (h x hx).2.2
    omega
theorem formD_okx {ns : List (List Nat)} {gs : List Gap} (h : ∀ n ∈ ns, NameOk n) : ∀ x ∈ [D.tup (ns.map nmD), D.tup (gs.map gapD)], x.plain = true ∧ x.py.canLay0 = true ∧ x.py.depth ≤ 2 := by
  intro x hx
  rcases List.mem_cons.mp hx with rfl | hx
  · have := tup_okx (xs := ns.map nmD) (n := 0) fun x hx => by
      obtain ⟨n, hn, rfl⟩ := List.mem_map.mp hx; exact nmD_ok' (h n hn)
    exact ⟨this.1, this.2.1, by omega⟩
  · rw [List.mem_singleton.mp hx]
    exact tup_okx (xs := gs.map gapD) (n := 1) fun x hx => by
      obtain ⟨n, hn, rfl⟩ := List.mem_map.mp hx; exact gaps_okx n
theorem formD_ok {ns : List (List Nat)} {gs : List Gap} (h : ∀ n ∈ ns, NameOk n) : (formD ns gs).ok := ok_tup (n := 2) (by decide) (formD_okx h)
def SpSame (C : Ct) : Prop := ∀ ns gs Q, (∀ n ∈ ns, NameOk n) → gs.length ≤ 10000 → Q (.d (.bl true)) [some (.d (formD ns gs)), some (.d (formD ns gs))] → C "_law_same" [.d (formD ns gs), .d (formD ns gs)] Q
theorem bools_true {n : Nat} : boolsOf (List.replicate n (.bl true)) = some (List.replicate n true) := by
  induction n with
  | zero => rfl
  | succ n ih => rw [List.replicate_succ, List.replicate_succ]; show (boolsOf _).map _ = _; rw [ih]; rfl
theorem bools_false {n : Nat} : boolsOf (List.replicate n (.bl false)) = some (List.replicate n false) := by
  induction n with
  | zero => rfl
  | succ n ih => rw [List.replicate_succ, List.replicate_succ]; show (boolsOf _).map _ = _; rw [ih]; rfl
theorem all_true {n : Nat} : (List.replicate n true).all id = true := by simp
theorem any_false {n : Nat} : (List.replicate n false).any id = false := by simp
theorem same_ok {T : Tab} (ts : T "_law_same" = some ⟨2, 5, B_l_same, false⟩) : ∀ k, 1 ≤ k → SpSame (call T k) := lvl 1 fun j ns gs Q hn hl hq => by
  refine run_call ts rfl ?_
  generalize call T j = C
  refine ⟨formD_ok hn, formD_ok hn, ?_⟩
  show if (!PyData.eqv (formD ns gs).py (formD ns gs).py) = true then _ else _
  rw [eqv_self (formD_ok hn)]
  show compL _ _ _ _ _ _ _ _ _ _
  refine compL_inv _ (fun i acc s => i ≤ gs.length ∧ acc = List.replicate i (.bl true) ∧ s = [some (.d (formD ns gs)), some (.d (formD ns gs)), some (.d (.tup (ns.map nmD))), some (.d (.tup (gs.map gapD))), none]) (fun i x acc s N hN hx hs => ?_) (fun acc s hs => ?_) _ ⟨Nat.zero_le _, rfl, rfl⟩
  · obtain ⟨hi, rfl, rfl⟩ := hs
    obtain ⟨g, hg, rfl⟩ := mapD_at hx
    have hlt := (List.getElem?_eq_some_iff.mp hg).1
    refine ⟨_, rfl, _, _, rfl, ?_, hN _ _ ⟨by omega, ?_, rfl⟩⟩
    · rw [List.length_replicate]; show i < 16777216; omega
    · rw [List.replicate_succ']; rfl
  obtain ⟨hi, rfl, rfl⟩ := hs
  refine ⟨_, bools_true, ?_⟩
  rw [all_true]
  show compL _ _ _ _ _ _ _ _ _ _
  refine compL_inv _ (fun i acc s => i ≤ gs.length ∧ acc = List.replicate i (.bl false) ∧ s = [some (.d (formD ns gs)), some (.d (formD ns gs)), some (.d (.tup (ns.map nmD))), some (.d (.tup (gs.map gapD))), none]) (fun i x acc s N hN hx hs => ?_) (fun acc s hs => ?_) _ ⟨Nat.zero_le _, rfl, rfl⟩
  · obtain ⟨hi, rfl, rfl⟩ := hs
    obtain ⟨g, hg, rfl⟩ := mapD_at hx
    have hlt := (List.getElem?_eq_some_iff.mp hg).1
    refine ⟨_, rfl, _, rfl, ?_⟩
    refine ⟨_, rfl, ?_⟩
    refine ⟨_, _, rfl, ?_, hN _ _ ⟨by omega, ?_, rfl⟩⟩
    · rw [List.length_replicate]; show i < 16777216; omega
    · rw [List.replicate_succ']; rfl
  obtain ⟨hi, rfl, rfl⟩ := hs
  refine ⟨_, bools_false, ?_⟩
  rw [any_false]
  exact hq
/-! ### the nearest one of sorted cases -/
def SpNearLaw (C : Ct) : Prop := ∀ (c : Case) (ds : List Case) p Q, (c :: ds).Pairwise (fun a b => a.1 < b.1) → Q (.d (nmD (nearC p c ds).2)) [some (.d (.lst ((c :: ds).map caseD))), some (.d (.int p))] → C "_law_nearest" [.d (.lst ((c :: ds).map caseD)), .d (.int p)] Q
theorem near_law {T : Tab} (tn : T "_law_nearest" = some ⟨2, 4, B_l_nearest, false⟩) : ∀ k, 1 ≤ k → SpNearLaw (call T k) := lvl 1 fun j c ds p Q hp hq => by
  refine run_call tn rfl ?_
  generalize call T j = C
  refine ⟨caseD c, atI_zero caseD c ds, ?_⟩
  show forL _ _ _ _ _ _
  refine forL_inv _ (fun i s => ∃ o3 b, fr o3 ∧ (((c :: ds).take i).foldl (nearF p) (some c) = some b) ∧ s = [some (.d (.lst ((c :: ds).map caseD))), some (.d (.int p)), some (.d (caseD b)), o3]) (fun i x s N hN hx hs => ?_) (fun s hs => ?_) _ ⟨none, c, fr.n, rfl, rfl⟩
  · obtain ⟨o3, b, f3, hb, rfl⟩ := hs
    obtain ⟨d, hd, rfl⟩ := mapD_at hx
    refine ⟨_, put_fr rfl f3, ?_⟩
    have stp : ((c :: ds).take (i + 1)).foldl (nearF p) (some c) = nearF p (some b) d := by
      rw [List.take_add_one, hd, List.foldl_append, hb]; rfl
    refine ⟨_, rfl, _, rfl, ?_⟩
    refine if_d (fun h => ?_) fun h => ?_
    · have h' := (abs_lt _ _).mp h
      refine hN _ ⟨_, d, fr.x, ?_, rfl⟩
      rw [stp]; show (if _ then _ else _) = _
      rw [if_pos h']
    · have h' : ¬ (d.1 - p).natAbs < (b.1 - p).natAbs := fun z => h ((abs_lt _ _).mpr z)
      refine hN _ ⟨_, b, fr.x, ?_, rfl⟩
      rw [stp]; show (if _ then _ else _) = _
      rw [if_neg h']
  obtain ⟨o3, b, f3, hb, rfl⟩ := hs
  rw [List.length_map, List.take_length, List.foldl_cons] at hb
  have e : nearF p (some c) c = some c := by
    show (if _ then _ else _) = _
    rw [if_neg (Nat.lt_irrefl _)]
  rw [e, near_fold c ds hp] at hb
  cases hb
  exact ⟨_, rfl, hq⟩
/-! ### a place by two neighbours of sorted cases -/
def SpPlace (C : Ct) : Prop := ∀ h (L : List Case) Q, Hand h → 0 < L.length → L.length ≤ 1000 → (∀ c ∈ L, -(10 ^ 60) ≤ c.1 ∧ c.1 ≤ 10 ^ 60) → (∀ p h', Hand h' → -(10 ^ 60) ≤ p → p ≤ 10 ^ 60 → Q (.d (.int p)) [some (.l true h'), some (.d (.lst (L.map caseD)))]) → C "_law_place" [.l true h, .d (.lst (L.map caseD))] Q
theorem plA_far {L : List Case} (far : ∀ c ∈ L, -(10 ^ 60) ≤ c.1 ∧ c.1 ≤ 10 ^ 60) {k : Nat} (h : k < L.length) : -(10 ^ 60) ≤ plA L k ∧ plA L k ≤ 10 ^ 60 := far _ (List.mem_of_getElem? (at_plA h))
theorem place_law {T : Tab} (t : DrawT T) (tp : T "_law_place" = some ⟨2, 8, B_l_place, false⟩) : ∀ k, 4 ≤ k → SpPlace (call T k) := lvl 4 fun j h L Q hh l0 l1 far hq => by
  have dr := draw_ok t (k := j + 3) (by omega)
  refine run_call tp rfl ?_
  generalize call T (j + 3) = C at dr ⊢
  refine ⟨⟨by rw [List.length_map]; omega, by rw [List.length_map]; omega⟩, ?_⟩
  show compL _ _ _ _ _ _ _ _ _ _
  refine compL_inv _ (fun i acc s => i ≤ L.length - 1 ∧ (∃ es : List Nat, es.length ≤ i ∧ (∀ e ∈ es, e + 1 < L.length) ∧ acc = es.map natD) ∧ s = [some (.l true h), some (.d (.lst (L.map caseD))), none, none, none, none, none, none]) (fun i x acc s N hN hx hs => ?_) (fun acc s hs => ?_) _ ⟨Nat.zero_le _, ⟨[], Nat.le_refl _, fun e he => by simp at he, rfl⟩, rfl⟩
  · obtain ⟨hi, ⟨es, el, hes, rfl⟩, rfl⟩ := hs
    obtain ⟨hi', rfl⟩ := rangeD_at hx
    rw [List.length_map] at hi'
    have hi2 : i + 1 < L.length := by omega
    refine ⟨_, rfl, ?_⟩
    have e0 : L2.atI (L.map caseD) (0 + (i : Int)) = some (caseD (plA L i, nmA L i)) := by rw [Int.zero_add]; exact nmA_at (by omega)
    have e1 : L2.atI (L.map caseD) (0 + (i : Int) + 1) = some (caseD (plA L (i + 1), nmA L (i + 1))) := by
      rw [show (0 + (i : Int)) + 1 = ((i + 1 : Nat) : Int) by omega]; exact nmA_at hi2
    refine ⟨_, e0, _, rfl, ?_⟩
    refine ⟨_, e1, _, rfl, ?_⟩
    refine if_nd (fun _ => ?_) fun _ => ?_
    · refine ⟨_, _, rfl, ?_, hN _ _ ⟨by omega, ⟨es ++ [i], by simp; omega, fun e he => ?_, ?_⟩, rfl⟩⟩
      · rw [List.length_map]; show es.length < 16777216; omega
      · rcases List.mem_append.mp he with he | he
        · exact hes e he
        · rw [List.mem_singleton.mp he]; exact hi2
      · rw [List.map_append]
        show _ ++ [D.int (0 + (i : Int))] = _
        rw [Int.zero_add]; rfl
    · exact hN _ _ ⟨by omega, ⟨es, by omega, hes, rfl⟩, rfl⟩
  obtain ⟨hi, ⟨es, el, hes, rfl⟩, rfl⟩ := hs
  rw [rangeD_len] at hi el
  have en : ((((L.map caseD).length : Nat) : Int) - 1).toNat = L.length - 1 := by rw [List.length_map]; omega
  rw [en] at el
  -- from the place's number on
  have rest : ∀ h (a : Nat), Hand h → a < L.length → rS C (.seq (.asg (.nm 4) (.idx (.idx (.var 1) (.var 3)) (.cst (.int 0)))) (.seq (.asg (.nm 5) (.idx (.idx (.var 1) (.blt .min (.cons (.bin .Add (.var 3) (.cst (.int 1))) (.cons (.bin .Sub (.blt .len (.cons (.var 1) .nil)) (.cst (.int 1))) .nil)))) (.cst (.int 0)))) (.seq (.asg (.nm 6) (.call "_law_draw" (.cons (.var 0) (.cons (.cst (.int 7)) .nil)))) (.seq (.ite (.cmp .Lt (.var 6) (.cst (.int 3))) (.asg (.nm 4) (.bin .Sub (.bin .Add (.bin .FloorDiv (.bin .Add (.var 4) (.var 5)) (.cst (.int 2))) (.call "_law_draw" (.cons (.var 0) (.cons (.cst (.int 4)) .nil)))) (.cst (.int 1)))) (.ite (.cmp .Lt (.var 6) (.cst (.int 5))) (.asg (.nm 4) (.bin .Add (.var 4) (.call "_law_draw" (.cons (.var 0) (.cons (.fz (.blt .max (.cons (.cst (.int 1)) (.cons (.bin .Add (.bin .Sub (.var 5) (.var 4)) (.cst (.int 1))) .nil)))) .nil))))) (.ite (.cmp .Eq (.var 6) (.cst (.int 5))) (.asg (.nm 4) (.bin .Sub (.bin .Add (.var 4) (.call "_law_draw" (.cons (.var 0) (.cons (.cst (.int 9)) .nil)))) (.cst (.int 4)))) (.asg (.nm 4) (.bin .Sub (.call "_law_draw" (.cons (.var 0) (.cons (.fz (.bin .Add (.bin .Mult (.cst (.int 2)) (.bin .Pow (.cst (.int 10)) (.cst (.int 60)))) (.cst (.int 1)))) .nil))) (.bin .Pow (.cst (.int 10)) (.cst (.int 60)))))))) (.ret (.blt .max (.cons (.neg (.bin .Pow (.cst (.int 10)) (.cst (.int 60)))) (.cons (.blt .min (.cons (.bin .Pow (.cst (.int 10)) (.cst (.int 60))) (.cons (.var 4) .nil))) .nil)))))))) (rEnds 2 Q)
      [some (.l true h), some (.d (.lst (L.map caseD))), some (.d (.lst (es.map natD))), some (.d (.int (a : Int))), none, none, none, none] := by
    intro h a hh ha
    refine ⟨_, nmA_at ha, _, rfl, ?_⟩
    have f1 := plA_far far ha
    obtain ⟨b, hb, eb⟩ : ∃ b : Nat, b < L.length ∧ (if ((L.map caseD).length : Int) - 1 < (a : Int) + 1 then ((L.map caseD).length : Int) - 1 else (a : Int) + 1) = (b : Int) := by
      rw [List.length_map]
      split
      · exact ⟨L.length - 1, by omega, by omega⟩
      · exact ⟨a + 1, by omega, by omega⟩
    have f2 := plA_far far hb
    have ebb := nmA_at hb
    rw [← eb] at ebb
    refine ⟨_, ebb, _, rfl, ?_⟩
    refine dr _ _ _ hh (by decide) (by decide) fun w h2 hh2 w0 w1 => ?_
    have fin : ∀ h (Z : Int), Hand h → rS C (.ret (.blt .max (.cons (.neg (.bin .Pow (.cst (.int 10)) (.cst (.int 60)))) (.cons (.blt .min (.cons (.bin .Pow (.cst (.int 10)) (.cst (.int 60))) (.cons (.var 4) .nil))) .nil)))) (rEnds 2 Q) [some (.l true h), some (.d (.lst (L.map caseD))), some (.d (.lst (es.map natD))), some (.d (.int (a : Int))), some (.d (.int Z)), some (.d (.int (plA L b))), some (.d (.int w)), none] := by
      intro h Z hh
      refine ⟨⟨by decide, by decide, by decide⟩, ⟨by decide, by decide, by decide⟩, ?_⟩
      refine hq _ h hh ?_ ?_
      · show -(10 ^ 60) ≤ (if (if Z < 10 ^ (60 : Int).toNat then Z else 10 ^ (60 : Int).toNat) > -(10 ^ (60 : Int).toNat) then _ else _)
        rw [p60]
        split <;> omega
      · show (if (if Z < 10 ^ (60 : Int).toNat then Z else 10 ^ (60 : Int).toNat) > -(10 ^ (60 : Int).toNat) then _ else _) ≤ (10 : Int) ^ 60
        rw [p60]
        split
        · split <;> omega
        · decide
    refine if_d (fun _ => ?_) fun _ => ?_
    · refine ⟨⟨by decide, by decide⟩, ?_⟩
      refine dr _ _ _ hh2 (by decide) (by decide) fun d h3 hh3 d0 d1 => ?_
      show rS _ _ _ _
      exact fin _ _ hh3
    · refine if_d (fun _ => ?_) fun _ => ?_
      · refine dr _ _ _ hh2 ?_ (small ?_ ?_) fun d h3 hh3 d0 d1 => ?_
        · show (0 : Int) < (if plA L b - plA L a + 1 > 1 then plA L b - plA L a + 1 else 1)
          split <;> omega
        · show (0 : Int) < (if plA L b - plA L a + 1 > 1 then plA L b - plA L a + 1 else 1)
          split <;> omega
        · show (if plA L b - plA L a + 1 > 1 then plA L b - plA L a + 1 else 1) ≤ (10 : Int) ^ 70
          split <;> omega
        show rS _ _ _ _
        exact fin _ _ hh3
      · refine if_d (fun _ => ?_) fun _ => ?_
        · refine dr _ _ _ hh2 (by decide) (by decide) fun d h3 hh3 d0 d1 => ?_
          show rS _ _ _ _
          exact fin _ _ hh3
        · refine ⟨⟨by decide, by decide, by decide⟩, .inl (by decide), ?_⟩
          refine dr _ _ _ hh2 (by decide) (small (by decide) (by decide)) fun d h3 hh3 d0 d1 => ?_
          refine ⟨⟨by decide, by decide, by decide⟩, ?_⟩
          show rS _ _ _ _
          exact fin _ _ hh3
  refine dr _ _ _ hh ?_ (small ?_ ?_) fun a h2 hh2 a0 a1 => ?_
  · show (0 : Int) < ((L.map caseD).length : Int)
    rw [List.length_map]; omega
  · show (0 : Int) < ((L.map caseD).length : Int)
    rw [List.length_map]; omega
  · show ((L.map caseD).length : Int) ≤ 10 ^ 70
    rw [List.length_map]; omega
  rw [List.length_map] at a1
  obtain ⟨a, rfl⟩ := Int.eq_ofNat_of_zero_le a0
  refine ⟨Nat.zero_le _, ok_lst (n := 0) (by decide) fun x hx => (by obtain ⟨k, _, rfl⟩ := List.mem_map.mp hx; exact ⟨rfl, rfl, Nat.le_refl _⟩), nil_ok, ?_⟩
  show if (!PyData.eqv (D.lst (es.map natD)).py (D.lst []).py) = true then _ else _
  rw [eqv_nil, isE_map]
  refine if_b (fun hne => ?_) fun _ => ?_
  · refine dr _ _ _ hh2 (by decide) (by decide) fun d h3 hh3 d0 d1 => ?_
    refine if_d (fun _ => ?_) fun _ => ?_
    · have pos : 0 < es.length := by
        cases es with
        | nil => cases hne
        | cons o os => exact Nat.succ_pos _
      refine dr _ _ _ hh3 ?_ (small ?_ ?_) fun e h4 hh4 e0 e1 => ?_
      · show (0 : Int) < ((es.map natD).length : Int)
        rw [List.length_map]; omega
      · show (0 : Int) < ((es.map natD).length : Int)
        rw [List.length_map]; omega
      · show ((es.map natD).length : Int) ≤ 10 ^ 70
        rw [List.length_map]; omega
      rw [List.length_map] at e1
      obtain ⟨n, k, rfl, hk, ek⟩ := atI_mem natD e0 e1
      refine ⟨_, ek, ?_⟩
      show rS _ _ _ _
      exact rest _ _ hh4 (by have := hes k (List.mem_of_getElem? hk); omega)
    · show rS _ _ _ _
      exact rest _ _ hh3 (by omega)
  · show rS _ _ _ _
    exact rest _ _ hh2 (by omega)
end Itp

/-! Forms2: drawn forms of three names; the best place to bring. -/
namespace Itp
open PySem
def Far (gs : List Gap) : Prop := ∀ g ∈ gs, -(10 ^ 60) ≤ g.1 ∧ g.2 ≤ 10 ^ 60
theorem formOk_app {ns : List (List Nat)} {gs : List Gap} {n m : List Nat} {g : Gap} (h : FormOk ns gs) (hn : NameOk n) (hl : ns[gs.length]? = some m) (ne : m ≠ n) (h1 : g.1 < g.2) (h2 : ∀ g' ∈ gs, g'.2 ≤ g.1) : FormOk (ns ++ [n]) (gs ++ [g]) := by
  have l := h.len
  refine ⟨by simp [l], fun x hx => ?_, fun i a b ha hb => ?_, fun x hx => ?_, ?_⟩
  · rcases List.mem_append.mp hx with z | z
    · exact h.nm x z
    · rw [List.mem_singleton.mp z]; exact hn
  · by_cases hi : i + 1 < ns.length
    · rw [List.getElem?_append_left (by omega)] at ha
      rw [List.getElem?_append_left hi] at hb
      exact h.adj i a b ha hb
    · have hi2 : i + 1 = ns.length := by
        have := (List.getElem?_eq_some_iff.mp hb).1
        simp at this
        omega
      rw [hi2, List.getElem?_append_right (Nat.le_refl _), Nat.sub_self] at hb
      have e1 : n = b := by simpa using hb
      have e2 : i = gs.length := by omega
      subst e2
      rw [List.getElem?_append_left (by omega), hl] at ha
      cases ha
      rw [← e1]; exact ne
  · rcases List.mem_append.mp hx with z | z
    · exact h.lt x z
    · rw [List.mem_singleton.mp z]; exact h1
  · refine List.pairwise_append.mpr ⟨h.ord, List.pairwise_singleton _ _, fun a ha b hb => ?_⟩
    rw [List.mem_singleton.mp hb]
    exact h2 a ha
theorem formOk_one {n : List Nat} (hn : NameOk n) : FormOk [n] [] := ⟨rfl, fun x hx => by rw [List.mem_singleton.mp hx]; exact hn, fun i a b ha hb => by simp at hb, fun g hg => by simp at hg, .nil⟩
theorem r3_at {f : Nat → D} {v : Int} (h0 : 0 ≤ v) (h1 : v < 3) : L2.atI ((List.range 3).map f) v = some (f v.toNat) := by
  have : v = 0 ∨ v = 1 ∨ v = 2 := by omega
  rcases this with rfl | rfl | rfl <;> rfl
def SpForm2 (C : Ct) : Prop := ∀ h (lo hi : Int) Q, Hand h → 0 ≤ lo → lo ≤ hi → hi ≤ 30 → (∀ ns gs h', Hand h' → FormOk ns gs → Far gs → lo ≤ gs.length → gs.length ≤ hi → Q (.d (formD ns gs)) [some (.l true h'), some (.d (.int lo)), some (.d (.int hi))]) → C "_law_form" [.l true h, .d (.int lo), .d (.int hi)] Q
theorem form2_ok {T : Tab} (t : DrawT T) (tn : T "_law_names" = some ⟨1, 7, B_l_names2, false⟩) (tf : T "_law_form" = some ⟨3, 11, B_l_form2, false⟩) : ∀ k, 5 ≤ k → SpForm2 (call T k) := lvl 5 fun j h lo hi Q hh l0 l1 l2 hq => by
  have dr := draw_ok t (k := j + 4) (by omega)
  have nm := names3_ok t tn (j + 4) (by omega)
  refine run_call tf rfl ?_
  generalize call T (j + 4) = C at dr nm ⊢
  refine nm _ _ hh fun w h1 hh1 wok wne => ?_
  refine ⟨⟨by decide, by decide, by decide⟩, ⟨by decide, by decide, by decide⟩, Nat.le_of_ble_eq_true rfl, ?_⟩
  refine dr _ _ _ hh1 (by decide) (by decide) fun u h2 hh2 u0 u1 => ?_
  obtain ⟨S, hS, eS⟩ := atI_ints (ns := [12, 10 ^ (9 : Int).toNat, 10 ^ (58 : Int).toNat]) u0 (by simpa using u1)
  refine ⟨_, eS, ?_⟩
  have hS' : 12 ≤ S ∧ S ≤ 10 ^ 58 := by
    rw [p9, p58] at hS
    simp at hS
    rcases hS with rfl | rfl | rfl <;> decide
  clear hS eS
  obtain ⟨S0, S1⟩ := hS'
  refine ⟨.inl (by decide), ?_⟩
  refine dr _ _ _ hh2 (by omega) (small (by omega) (by omega)) fun v h3 hh3 v0 v1 => ?_
  refine dr _ _ _ hh3 (by decide) (by decide) fun q h4 hh4 q0 q1 => ?_
  refine ⟨_, r3_at q0 q1, Nat.le_of_ble_eq_true rfl, Nat.le_of_ble_eq_true rfl, ?_⟩
  refine dr _ _ _ hh4 (by omega) (small (by omega) (by omega)) fun m h5 hh5 m0 m1 => ?_
  refine ⟨⟨by omega, by omega⟩, ?_⟩
  show forL _ _ _ _ _ _
  refine forL_inv _ (fun i s => ∃ h at_ la ns gs o9 o10, Hand h ∧ fr o9 ∧ fr o10 ∧ gs.length = i ∧ FormOk ns gs ∧ 0 ≤ la ∧ la < 3 ∧ ns[gs.length]? = some (w la.toNat) ∧ (∀ g ∈ gs, -(10 ^ 58) ≤ g.1 ∧ g.2 ≤ at_) ∧ -(10 ^ 58) ≤ at_ ∧ at_ ≤ 10 ^ 58 + 10 ^ 58 * 2 * (i : Int) ∧
    s = [some (.l true h), some (.d (.int lo)), some (.d (.int hi)), some (.d (.lst ((List.range 3).map fun i => nmD (w i)))), some (.d (.int S)), some (.d (.int at_)), some (.d (.int la)), some (.l false (ns.map nmD)), some (.l false (gs.map gapD)), o9, o10]) (fun i x s N hN hx hs => ?_) (fun s hs => ?_) _
    ⟨h5, v - S, q, [w q.toNat], [], none, none, hh5, fr.n, fr.n, rfl, formOk_one (wok _), q0, q1, rfl, fun g hg => by simp at hg, by omega, by omega, rfl⟩
  · obtain ⟨h6, at_, la, ns, gs, o9, o10, hh6, f9, f10, hl, ok, la0, la1, hla, hb, b0, b1, rfl⟩ := hs
    obtain ⟨hi', rfl⟩ := rangeD_at hx
    have hi' : i < 30 := by omega
    refine ⟨_, put_fr rfl f9, ?_⟩
    refine ⟨Nat.le_of_ble_eq_true rfl, ?_⟩
    refine dr _ _ _ hh6 (by decide) (by decide) fun x1 h7 hh7 x10 x11 => ?_
    obtain ⟨Z, hZ, eZ⟩ := atI_ints (ns := [1, 4, S]) x10 (by simpa using x11)
    refine ⟨_, eZ, ?_⟩
    have hZ' : 1 ≤ Z ∧ Z ≤ 10 ^ 58 := by
      simp at hZ
      rcases hZ with rfl | rfl | rfl <;> first | decide | omega
    refine dr _ _ _ hh7 (by omega) (small (by omega) (by omega)) fun a h8 hh8 a0 a1 => ?_
    show putK _ _ _ _
    refine putK_of rfl f10 ?_
    refine ⟨Nat.le_of_ble_eq_true rfl, ?_⟩
    refine dr _ _ _ hh8 (by decide) (by decide) fun x2 h9 hh9 x20 x21 => ?_
    obtain ⟨Y, hY, eY⟩ := atI_ints (ns := [3, 13, S]) x20 (by simpa using x21)
    refine ⟨_, eY, ?_⟩
    have hY' : 1 ≤ Y ∧ Y ≤ 10 ^ 58 := by
      simp at hY
      rcases hY with rfl | rfl | rfl <;> first | decide | omega
    refine dr _ _ _ hh9 (by omega) (small (by omega) (by omega)) fun b h10 hh10 b0' b1' => ?_
    refine ⟨Nat.le_of_ble_eq_true rfl, ?_, ?_⟩
    · rw [List.length_map]; show gs.length < 16777216; omega
    refine dr _ _ _ hh10 (by decide) (by decide) fun c h11 hh11 c0 c1 => ?_
    refine ⟨by decide, ?_⟩
    have n0 : 0 ≤ (la + 1 + c) % 3 := Int.emod_nonneg _ (by decide)
    have n1 : (la + 1 + c) % 3 < 3 := Int.emod_lt_of_pos _ (by decide)
    refine ⟨_, r3_at n0 n1, ?_, ?_⟩
    · rw [List.length_map, ok.len]; show gs.length + 1 < 16777216; omega
    refine hN _ ⟨h11, at_ + a + 1 + b, (la + 1 + c) % 3, ns ++ [w ((la + 1 + c) % 3).toNat], gs ++ [(at_ + a, at_ + a + 1 + b)], some (.d (.int (0 + (i : Int)))), some (.d (.int (at_ + a))), hh11, fr.x, fr.x, by simp [hl], ?_, n0, n1, ?_, ?_, by omega, ?_, ?_⟩
    · refine formOk_app ok (wok _) hla ?_ ?_ ?_
      · have ne : la ≠ (la + 1 + c) % 3 := by omega
        intro z
        rcases Nat.lt_or_ge la.toNat ((la + 1 + c) % 3).toNat with y | y
        · exact wne _ _ y (by omega) z
        · exact wne _ _ (show ((la + 1 + c) % 3).toNat < la.toNat by omega) (by omega) z.symm
      · show at_ + a < at_ + a + 1 + b; omega
      · intro g' hg'
        have := (hb g' hg').2
        show g'.2 ≤ at_ + a; omega
    · rw [List.length_append, List.getElem?_append_right (by rw [ok.len]; simp), ok.len]; simp
    · intro g hg
      rcases List.mem_append.mp hg with z | z
      · have := hb g z
        constructor <;> omega
      · rw [List.mem_singleton.mp z]
        show -(10 ^ 58) ≤ at_ + a ∧ at_ + a + 1 + b ≤ at_ + a + 1 + b
        omega
    · have : ((i + 1 : Nat) : Int) = (i : Int) + 1 := by omega
      rw [this]
      omega
    · rw [List.map_append, List.map_append]
      rfl
  · obtain ⟨h6, at_, la, ns, gs, o9, o10, hh6, f9, f10, hl, ok, la0, la1, hla, hb, b0, b1, rfl⟩ := hs
    rw [rangeD_len] at hl b1
    have hl' : (gs.length : Int) = lo + m := by omega
    refine ⟨Nat.le_of_ble_eq_true rfl, ?_⟩
    refine hq ns gs h6 hh6 ok (fun g hg => ?_) (by omega) (by omega)
    have := hb g hg
    rw [← hl, hl'] at b1
    omega
/-! ### the best place to bring -/
def bestD (gs : List Gap) (p : Int) (t : Str) : D := match gapN gs p with
  | none => .non
  | some i => match gs[i]? with
    | none => .non
    | some g => if t = "L" then (if mk g > g.1 then .int (mk g) else .non) else (if mk g + 1 < g.2 then .int (mk g + 1) else .non)
theorem bestD_none {gs : List Gap} {p : Int} {t : Str} (h : gapN gs p = none) : bestD gs p t = .non := by unfold bestD; rw [h]
theorem bestD_some {gs : List Gap} {p : Int} {t : Str} {i : Nat} {g : Gap} (h : gapN gs p = some i) (e : gs[i]? = some g) : bestD gs p t = if t = "L" then (if mk g > g.1 then .int (mk g) else .non) else (if mk g + 1 < g.2 then .int (mk g + 1) else .non) := by
  unfold bestD; rw [h]; simp only; rw [e]
theorem bestD_cases (gs : List Gap) (p : Int) (t : Str) : bestD gs p t = .non ∨ ∃ i, bestD gs p t = .int i := by
  unfold bestD
  split
  · exact .inl rfl
  · split
    · exact .inl rfl
    · split <;> split <;> first | exact .inl rfl | exact .inr ⟨_, rfl⟩
def SpBest (C : Ct) : Prop := ∀ x gs p (t : Str) Q, Q (.d (bestD gs p t)) [some (.d (.tup [x, .tup (gs.map gapD)])), some (.d (.int p)), some (.d (.str t))] → C "best" [.d (.tup [x, .tup (gs.map gapD)]), .d (.int p), .d (.str t)] Q
theorem best_ok {T : Tab} (tm : T "mark" = some ⟨2, 2, B_mark, false⟩) (tg : T "gap_at" = some ⟨2, 5, B_gap_at, false⟩) (tb : T "best" = some ⟨3, 6, B_best, false⟩) : ∀ k, 2 ≤ k → SpBest (call T k) := lvl 2 fun j x gs p t Q h => by
  have ma := mark_ok tm (j + 1) (by omega)
  have ga := gap_at_ok tg (j + 1) (by omega)
  refine run_call tb rfl ?_
  generalize call T (j + 1) = C at ma ga ⊢
  refine ga _ _ _ _ ?_
  cases hg : gapN gs p with
  | none =>
    rw [bestD_none hg] at h
    exact h
  | some i =>
    obtain ⟨g, hgi, _⟩ := gapN_some hg
    rw [bestD_some hg hgi] at h
    refine ⟨_, rfl, _, atI_map_nat gapD hgi, ?_⟩
    refine if_d (fun e => ?_) fun e => ?_
    · rw [if_pos e] at h
      refine ma _ _ _ ?_
      refine if_d (fun e2 => ?_) fun e2 => ?_
      · rw [if_pos (show mk g > g.1 from e2)] at h
        exact ma _ _ _ h
      · rw [if_neg (show ¬ mk g > g.1 from e2)] at h
        exact h
    · rw [if_neg e] at h
      refine ma _ _ _ ?_
      refine if_d (fun e2 => ?_) fun e2 => ?_
      · rw [if_pos (show mk g + 1 < g.2 from e2)] at h
        exact ma _ _ _ h
      · rw [if_neg (show ¬ mk g + 1 < g.2 from e2)] at h
        exact h
theorem gapN_eq {ns : List (List Nat)} {gs : List Gap} (ok : FormOk ns gs) {p : Int} {i : Nat} {g : Gap} (e : gs[i]? = some g) (h1 : g.1 < p) (h2 : p < g.2) : gapN gs p = some i := by
  obtain ⟨hi, e'⟩ := List.getElem?_eq_some_iff.mp e
  have hp : inP p gs[i] = true := by rw [e']; exact decide_eq_true ⟨h1, h2⟩
  have le : gs.findIdx (inP p) ≤ i := by
    rcases Nat.lt_or_ge i (gs.findIdx (inP p)) with z | z
    · have := List.not_of_lt_findIdx z
      rw [hp] at this; cases this
    · exact z
  have hl : gs.findIdx (inP p) < gs.length := by omega
  unfold gapN
  rw [if_pos hl]
  rcases Nat.lt_or_eq_of_le le with z | z
  · have q := of_decide_eq_true (List.findIdx_getElem (w := hl))
    have := (List.pairwise_iff_getElem.mp ok.ord) _ _ hl hi z
    rw [e'] at this
    omega
  · rw [z]
end Itp

/-! IsForm: what the program takes for a form. -/
namespace Itp
open PySem
def SpIsNum (C : Ct) : Prop := ∀ (p : Int) Q, Q (.d (.bl true)) [some (.d (.int p))] → C "is_number" [.d (.int p)] Q
theorem is_num {T : Tab} (tn : T "is_number" = some ⟨1, 1, B_is_number, false⟩) : ∀ k, 1 ≤ k → SpIsNum (call T k) := lvl 1 fun j p Q hq => by
  refine run_call tn rfl ?_
  exact hq
def SpIsPlace (C : Ct) : Prop := ∀ (p : Int) Q, -(10 ^ 60) ≤ p → p ≤ 10 ^ 60 → Q (.d (.bl true)) [some (.d (.int p))] → C "is_place" [.d (.int p)] Q
theorem is_place_ok {T : Tab} (tn : T "is_number" = some ⟨1, 1, B_is_number, false⟩) (tp : T "is_place" = some ⟨1, 1, B_is_place, false⟩) : ∀ k, 2 ≤ k → SpIsPlace (call T k) := lvl 2 fun j p Q h1 h2 hq => by
  have nu := is_num tn (j + 1) (by omega)
  refine run_call tp rfl ?_
  generalize call T (j + 1) = C at nu ⊢
  refine nu _ _ ?_
  show if decide (-1000000000000000000000000000000000000000000000000000000000000 ≤ p) = true then _ else _
  refine if_d (fun _ => ?_) fun z => absurd ?_ z
  · show Q (.d (.bl (decide (p ≤ 1000000000000000000000000000000000000000000000000000000000000)))) _
    rw [decide_eq_true (by omega)]
    exact hq
  · omega
theorem lt_ch (a b : Nat) : ([a] < [b]) ↔ a < b := by
  constructor
  · intro h
    cases h with
    | rel h => exact h
    | cons h => cases h
  · intro h
    exact List.Lex.rel h
def SpIsName (C : Ct) : Prop := ∀ n Q, NameOk n → Q (.d (.bl true)) [some (.d (nmD n))] → C "is_name" [.d (nmD n)] Q
theorem is_name_ok {T : Tab} (tn : T "is_name" = some ⟨1, 2, B_is_name, false⟩) : ∀ k, 1 ≤ k → SpIsName (call T k) := lvl 1 fun j n Q hn hq => by
  refine run_call tn rfl ?_
  generalize call T j = C
  have hl := hn.1
  have hl2 := hn.2.1
  refine ⟨?_, ?_⟩
  · show n.toArray.size ≤ 16777216
    rw [List.size_toArray]; omega
  show if decide ((1 : Int) ≤ (n.toArray.size : Int)) = true then _ else _
  rw [List.size_toArray]
  refine if_d (fun _ => ?_) fun z => absurd ?_ z
  · show if (!decide ((n.length : Int) ≤ 8)) = true then _ else _
    rw [decide_eq_true (by omega)]
    show compL _ _ _ _ _ _ _ _ _ _
    refine compL_inv _ (fun i acc s => i ≤ n.length ∧ acc = List.replicate i (.bl true) ∧ s = [some (.d (nmD n)), none]) (fun i x acc s N hN hx hs => ?_) (fun acc s hs => ?_) _ ⟨Nat.zero_le _, rfl, rfl⟩
    · obtain ⟨hi, rfl, rfl⟩ := hs
      have hx : (n.map fun c => D.str ⟨#[c]⟩)[i]? = some x := hx
      obtain ⟨c, hc, rfl⟩ := mapD_at hx
      have hlt := (List.getElem?_eq_some_iff.mp hc).1
      have hr := hn.2.2 c (List.mem_of_getElem? hc)
      refine ⟨_, rfl, ?_⟩
      show if (!decide ([c] < [97])) = true then _ else _
      refine if_nd (fun _ => ?_) fun z => absurd ((lt_ch _ _).mp z) (by omega)
      refine ⟨_, _, rfl, ?_, ?_⟩
      · rw [List.length_replicate]; show i < 16777216; omega
      · refine hN _ _ ⟨by omega, ?_, rfl⟩
        show List.replicate i (D.bl true) ++ [.bl (!decide ([122] < [c]))] = _
        rw [decide_eq_false (fun z => absurd ((lt_ch _ _).mp z) (by omega)), List.replicate_succ']
        rfl
    obtain ⟨hi, rfl, rfl⟩ := hs
    refine ⟨_, bools_true, ?_⟩
    rw [all_true]
    exact hq
  · omega
def SpAreNames (C : Ct) : Prop := ∀ (ns : List (List Nat)) Q, (∀ n ∈ ns, NameOk n) → 1 ≤ ns.length → ns.length ≤ 60 → (∀ (i : Nat) a b, ns[i]? = some a → ns[i + 1]? = some b → a ≠ b) → Q (.d (.bl true)) [some (.d (.tup (ns.map nmD)))] → C "are_names" [.d (.tup (ns.map nmD))] Q
theorem cut1 {α : Type} (f : α → D) (xs : List α) : cut (xs.map f) (some 1) none = (xs.drop 1).map f := by
  rcases Nat.eq_zero_or_pos xs.length with z | z
  · rw [List.length_eq_zero_iff.mp z]; rfl
  · rw [show (1 : Int) = ((1 : Nat) : Int) from rfl, cut_from (by rw [List.length_map]; exact z), List.map_drop]
theorem are_names_ok {T : Tab} (tn : T "is_name" = some ⟨1, 2, B_is_name, false⟩) (ta : T "are_names" = some ⟨1, 3, B_are_names, false⟩) : ∀ k, 2 ≤ k → SpAreNames (call T k) := lvl 2 fun j ns Q hn l0 l1 adj hq => by
  have na := is_name_ok tn (j + 1) (by omega)
  refine run_call ta rfl ?_
  generalize call T (j + 1) = C at na ⊢
  show if decide ((1 : Int) ≤ ((ns.map nmD).length : Int)) = true then _ else _
  rw [List.length_map]
  refine if_d (fun _ => ?_) fun z => absurd ?_ z
  · show if (!decide ((ns.length : Int) ≤ 60)) = true then _ else _
    rw [decide_eq_true (by omega)]
    show compL _ _ _ _ _ _ _ _ _ _
    refine compL_inv _ (fun i acc s => i ≤ ns.length ∧ acc = List.replicate i (.bl true) ∧ s = [some (.d (.tup (ns.map nmD))), none, none]) (fun i x acc s N hN hx hs => ?_) (fun acc s hs => ?_) _ ⟨Nat.zero_le _, rfl, rfl⟩
    · obtain ⟨hi, rfl, rfl⟩ := hs
      obtain ⟨n, hc, rfl⟩ := mapD_at hx
      have hlt := (List.getElem?_eq_some_iff.mp hc).1
      refine ⟨_, rfl, ?_⟩
      refine na _ _ (hn n (List.mem_of_getElem? hc)) ?_
      refine ⟨_, _, rfl, ?_, ?_⟩
      · rw [List.length_replicate]; show i < 16777216; omega
      · refine hN _ _ ⟨by omega, ?_, rfl⟩
        rw [List.replicate_succ']
    obtain ⟨hi, rfl, rfl⟩ := hs
    refine ⟨_, bools_true, ?_⟩
    rw [all_true]
    show compL _ _ _ _ _ _ _ _ _ _
    rw [cut1]
    refine compL_inv _ (fun i acc s => i ≤ ns.length ∧ acc = List.replicate i (.bl true) ∧ s = [some (.d (.tup (ns.map nmD))), none, none]) (fun i x acc s N hN hx hs => ?_) (fun acc s hs => ?_) _ ⟨Nat.zero_le _, rfl, rfl⟩
    · obtain ⟨hi, rfl, rfl⟩ := hs
      obtain ⟨a, b, ha, hb, rfl⟩ := zipB_at hx
      obtain ⟨a, ha', rfl⟩ := mapD_at ha
      obtain ⟨b, hb', rfl⟩ := mapD_at hb
      rw [List.getElem?_drop, Nat.add_comm] at hb'
      have hlt := (List.getElem?_eq_some_iff.mp ha').1
      refine ⟨_, rfl, ?_⟩
      refine ⟨_, _, rfl, ?_, ?_⟩
      · rw [List.length_replicate]; show i < 16777216; omega
      · refine hN _ _ ⟨by omega, ?_, rfl⟩
        show List.replicate i (D.bl true) ++ [.bl (!decide ((⟨a.toArray⟩ : Str) = ⟨b.toArray⟩))] = _
        rw [decide_eq_false (fun z => adj i a b ha' hb' (str_inj.mp z)), List.replicate_succ']
        rfl
    obtain ⟨hi, rfl, rfl⟩ := hs
    refine ⟨_, bools_true, ?_⟩
    rw [all_true]
    exact hq
  · omega
def SpIsGap (C : Ct) : Prop := ∀ (g : Gap) Q, g.1 < g.2 → -(10 ^ 60) ≤ g.1 → g.2 ≤ 10 ^ 60 → Q (.d (.bl true)) [some (.d (gapD g))] → C "is_gap" [.d (gapD g)] Q
theorem is_gap_ok {T : Tab} (tn : T "is_number" = some ⟨1, 1, B_is_number, false⟩) (tp : T "is_place" = some ⟨1, 1, B_is_place, false⟩) (tg : T "is_gap" = some ⟨1, 1, B_is_gap, false⟩) : ∀ k, 3 ≤ k → SpIsGap (call T k) := lvl 3 fun j g Q h1 h2 h3 hq => by
  have pl := is_place_ok tn tp (j + 2) (by omega)
  refine run_call tg rfl ?_
  generalize call T (j + 2) = C at pl ⊢
  refine ⟨_, rfl, ?_⟩
  refine pl _ _ (by omega) (by omega) ?_
  refine ⟨_, rfl, ?_⟩
  refine pl _ _ (by omega) (by omega) ?_
  refine ⟨_, rfl, _, rfl, ?_⟩
  show Q (.d (.bl (decide (g.1 < g.2)))) _
  rw [decide_eq_true h1]
  exact hq
def SpIsForm (C : Ct) : Prop := ∀ (ns : List (List Nat)) (gs : List Gap) Q, FormOk ns gs → Far gs → ns.length ≤ 60 → Q (.d (.bl true)) [some (.d (formD ns gs))] → C "is_form" [.d (formD ns gs)] Q
theorem is_form_ok {T : Tab} (tn : T "is_number" = some ⟨1, 1, B_is_number, false⟩) (tp : T "is_place" = some ⟨1, 1, B_is_place, false⟩) (tm : T "is_name" = some ⟨1, 2, B_is_name, false⟩) (ta : T "are_names" = some ⟨1, 3, B_are_names, false⟩) (tg : T "is_gap" = some ⟨1, 1, B_is_gap, false⟩) (tf : T "is_form" = some ⟨1, 5, B_is_form, false⟩) :
    ∀ k, 4 ≤ k → SpIsForm (call T k) := lvl 4 fun j ns gs Q ok far hl hq => by
  have an := are_names_ok tm ta (j + 3) (by omega)
  have ga := is_gap_ok tn tp tg (j + 3) (by omega)
  refine run_call tf rfl ?_
  generalize call T (j + 3) = C at an ga ⊢
  have ln := ok.len
  refine ⟨_, rfl, ?_⟩
  refine an _ _ ok.nm (by omega) (by omega) ok.adj ?_
  refine ⟨_, rfl, ?_⟩
  refine ⟨_, rfl, ?_⟩
  show if (!decide (((gs.map gapD).length : Int) = ((ns.map nmD).length : Int) - 1)) = true then _ else _
  rw [List.length_map, List.length_map]
  refine if_nd (fun z => absurd (by omega) z) fun _ => ?_
  show compL _ _ _ _ _ _ _ _ _ _
  refine compL_inv _ (fun i acc s => i ≤ gs.length ∧ acc = List.replicate i (.bl true) ∧ s = [some (.d (formD ns gs)), some (.d (.tup (gs.map gapD))), none, none, none]) (fun i x acc s N hN hx hs => ?_) (fun acc s hs => ?_) _ ⟨Nat.zero_le _, rfl, rfl⟩
  · obtain ⟨hi, rfl, rfl⟩ := hs
    obtain ⟨g, hc, rfl⟩ := mapD_at hx
    have hlt := (List.getElem?_eq_some_iff.mp hc).1
    have hm := List.mem_of_getElem? hc
    have hf := far g hm
    refine ⟨_, rfl, ?_⟩
    refine ga _ _ (ok.lt g hm) hf.1 hf.2 ?_
    refine ⟨_, _, rfl, ?_, ?_⟩
    · rw [List.length_replicate]; show i < 16777216; omega
    · refine hN _ _ ⟨by omega, ?_, rfl⟩
      rw [List.replicate_succ']
  obtain ⟨hi, rfl, rfl⟩ := hs
  refine ⟨_, bools_true, ?_⟩
  rw [all_true]
  show compL _ _ _ _ _ _ _ _ _ _
  rw [cut1]
  refine compL_inv _ (fun i acc s => i ≤ gs.length ∧ acc = List.replicate i (.bl true) ∧ s = [some (.d (formD ns gs)), some (.d (.tup (gs.map gapD))), none, none, none]) (fun i x acc s N hN hx hs => ?_) (fun acc s hs => ?_) _ ⟨Nat.zero_le _, rfl, rfl⟩
  · obtain ⟨hi, rfl, rfl⟩ := hs
    obtain ⟨a, b, ha, hb, rfl⟩ := zipB_at hx
    obtain ⟨a, ha', rfl⟩ := mapD_at ha
    obtain ⟨b, hb', rfl⟩ := mapD_at hb
    rw [List.getElem?_drop, Nat.add_comm] at hb'
    obtain ⟨hlt, ea⟩ := List.getElem?_eq_some_iff.mp ha'
    obtain ⟨hlt2, eb⟩ := List.getElem?_eq_some_iff.mp hb'
    have ord := (List.pairwise_iff_getElem.mp ok.ord) i (i + 1) hlt hlt2 (by omega)
    rw [ea, eb] at ord
    refine ⟨_, rfl, ?_⟩
    refine ⟨_, rfl, _, rfl, ?_⟩
    refine ⟨_, _, rfl, ?_, ?_⟩
    · rw [List.length_replicate]; show i < 16777216; omega
    · refine hN _ _ ⟨by omega, ?_, rfl⟩
      show List.replicate i (D.bl true) ++ [.bl (decide (a.2 ≤ b.1))] = _
      rw [decide_eq_true ord, List.replicate_succ']
  obtain ⟨hi, rfl, rfl⟩ := hs
  refine ⟨_, bools_true, ?_⟩
  rw [all_true]
  exact hq
end Itp

/-! Dics: what a dict holds. -/
namespace Itp
open PySem
section
variable {κ : Type} [DecidableEq κ]
theorem dget_none : ∀ {ks : List κ} {vs : List D} {k : κ}, k ∉ ks → dget ks vs k = none
  | [], _, _, _ => rfl
  | _ :: _, [], _, _ => rfl
  | j :: ks, v :: vs, k, h => by
    rw [List.mem_cons, not_or] at h
    unfold dget
    rw [if_neg (Ne.symm h.1)]
    exact dget_none h.2
theorem dget_map {α : Type} (f : α → κ) (g : α → D) : ∀ (xs : List α) (k : κ), dget (xs.map f) (xs.map g) k = (xs.find? fun x => decide (f x = k)).map g
  | [], _ => rfl
  | x :: xs, k => by
    rw [List.map_cons, List.map_cons, dget, List.find?_cons]
    by_cases e : f x = k
    · rw [if_pos e]; simp [e]
    · rw [if_neg e, dget_map f g xs k]; simp [e]
theorem dput_new {ks : List κ} {vs : List D} {k : κ} {y : D} (h : k ∉ ks) : dput ks vs k y = (ks ++ [k], vs ++ [y]) := by
  unfold dput; rw [if_neg h]
theorem dput_old {ks : List κ} {vs : List D} {k : κ} {y : D} (h : k ∈ ks) : dput ks vs k y = (ks, List.zipWith (fun j v => if j = k then y else v) ks vs) := by
  unfold dput; rw [if_pos h]
theorem dput_map {α : Type} (f : α → κ) (g g' : α → D) (xs : List α) (k : κ) (y : D) (h : ∃ x ∈ xs, f x = k) (hg : ∀ x ∈ xs, g' x = if f x = k then y else g x) : dput (xs.map f) (xs.map g) k y = (xs.map f, xs.map g') := by
  obtain ⟨x, hx, e⟩ := h
  rw [dput_old (List.mem_map.mpr ⟨x, hx, e⟩)]
  congr 1
  clear hx e
  induction xs with
  | nil => rfl
  | cons z zs ih =>
    rw [List.map_cons, List.map_cons, List.zipWith_cons_cons, List.map_cons, hg z List.mem_cons_self, ih fun x hx => hg x (List.mem_cons_of_mem _ hx)]
end
end Itp

/-! Asked: a place asked of a form, a row of places. -/
namespace Itp
open PySem
def askG (gs : List Gap) (p : Int) : List Gap := match gapN gs p with
  | none => gs
  | some i => match gs[i]? with
    | none => gs
    | some g => gs.set i (if p ≤ mk g then (p, g.2) else (g.1, p))
theorem askG_none {gs : List Gap} {p : Int} (h : gapN gs p = none) : askG gs p = gs := by unfold askG; rw [h]
theorem askG_some {gs : List Gap} {p : Int} {i : Nat} {g : Gap} (h : gapN gs p = some i) (e : gs[i]? = some g) : askG gs p = gs.set i (if p ≤ mk g then (p, g.2) else (g.1, p)) := by
  unfold askG; rw [h]; simp only; rw [e]
theorem askG_len (gs : List Gap) (p : Int) : (askG gs p).length = gs.length := by
  unfold askG
  split
  · rfl
  · split
    · rfl
    · simp
def SpWithGap (C : Ct) : Prop := ∀ (x : D) (gs : List Gap) (i : Nat) (g : Gap) Q, i < gs.length → gs.length ≤ 10000 → Q (.d (.tup [x, .tup ((gs.set i g).map gapD)])) [some (.d (.tup [x, .tup (gs.map gapD)])), some (.d (.int (i : Int))), some (.d (gapD g))] → C "with_gap" [.d (.tup [x, .tup (gs.map gapD)]), .d (.int (i : Int)), .d (gapD g)] Q
theorem with_gap_ok {T : Tab} (tw : T "with_gap" = some ⟨3, 5, B_with_gap, false⟩) : ∀ k, 1 ≤ k → SpWithGap (call T k) := lvl 1 fun j x gs i g Q hi hl hq => by
  refine run_call tw rfl ?_
  generalize call T j = C
  have c1 : cut (gs.map gapD) none (some (i : Int)) = (gs.take i).map gapD := by rw [cut_to (by rw [List.length_map]; omega), List.map_take]
  have c2 : cut (gs.map gapD) (some ((i : Int) + 1)) none = (gs.drop (i + 1)).map gapD := by
    rw [show (i : Int) + 1 = ((i + 1 : Nat) : Int) by omega, cut_from (by rw [List.length_map]; omega), List.map_drop]
  refine ⟨Nat.le_of_ble_eq_true rfl, ?_⟩
  rw [c1]
  refine ⟨?_, ?_⟩
  · show ((gs.take i).map gapD).length + 1 ≤ 16777216
    rw [List.length_map, List.length_take]; omega
  refine ⟨?_, Nat.le_of_ble_eq_true rfl, ?_⟩
  · show ((gs.take i).map gapD ++ [gapD g]).length + (cut (gs.map gapD) (some ((i : Int) + 1)) none).length ≤ 16777216
    rw [c2]
    simp; omega
  have e : (gs.take i).map gapD ++ [gapD g] ++ (gs.drop (i + 1)).map gapD = (gs.set i g).map gapD := by
    rw [List.set_eq_take_append_cons_drop, if_pos hi]
    simp
  show Q (.d (.tup [x, .tup ((gs.take i).map gapD ++ [gapD g] ++ cut (gs.map gapD) (some ((i : Int) + 1)) none)])) _
  rw [c2, e]
  exact hq
def SpAsked (C : Ct) : Prop := ∀ (ns : List (List Nat)) (gs : List Gap) p n Q, ns.length = gs.length + 1 → gs.length ≤ 10000 → ns[tellN gs p]? = some n → Q (.d (.tup [nmD n, formD ns (askG gs p)])) [some (.d (formD ns gs)), some (.d (.int p))] → C "asked" [.d (formD ns gs), .d (.int p)] Q
theorem asked_ok {T : Tab} (tm : T "mark" = some ⟨2, 2, B_mark, false⟩) (tt : T "tells" = some ⟨2, 7, B_tells, false⟩) (tg : T "gap_at" = some ⟨2, 5, B_gap_at, false⟩) (tw : T "with_gap" = some ⟨3, 5, B_with_gap, false⟩) (ta : T "asked" = some ⟨2, 6, B_asked, false⟩) : ∀ k, 3 ≤ k → SpAsked (call T k) := lvl 3 fun j ns gs p n Q hl hg hn hq => by
  have ma := mark_ok tm (j + 2) (by omega)
  have te := tells_ok tm tt (j + 2) (by omega)
  have ga := gap_at_ok tg (j + 2) (by omega)
  have wg := with_gap_ok tw (j + 2) (by omega)
  refine run_call ta rfl ?_
  generalize call T (j + 2) = C at ma te ga wg ⊢
  refine te _ _ _ _ _ hl hn ?_
  refine ga _ _ _ _ ?_
  cases hg' : gapN gs p with
  | none =>
    rw [askG_none hg'] at hq
    exact ⟨Nat.le_of_ble_eq_true rfl, hq⟩
  | some i =>
    obtain ⟨g, hgi, _⟩ := gapN_some hg'
    have hi := (List.getElem?_eq_some_iff.mp hgi).1
    rw [askG_some hg' hgi] at hq
    refine ⟨_, rfl, _, atI_map_nat gapD hgi, ?_⟩
    refine ma _ _ _ ?_
    refine if_d (fun h => ?_) fun h => ?_
    · rw [if_pos (show p ≤ mk g from h)] at hq
      refine ⟨Nat.le_of_ble_eq_true rfl, ?_⟩
      refine wg _ _ i (p, g.2) _ hi hg ?_
      exact ⟨Nat.le_of_ble_eq_true rfl, hq⟩
    · rw [if_neg (show ¬ p ≤ mk g from h)] at hq
      refine ⟨Nat.le_of_ble_eq_true rfl, ?_⟩
      refine wg _ _ i (g.1, p) _ hi hg ?_
      exact ⟨Nat.le_of_ble_eq_true rfl, hq⟩
/-- what a row of places gets, and the gaps behind it -/
def rowN (ns : List (List Nat)) : List Gap → List Int → List (List Nat)
  | _, [] => []
  | gs, p :: ps => ns.getD (tellN gs p) [] :: rowN ns (askG gs p) ps
def rowG : List Gap → List Int → List Gap
  | gs, [] => gs
  | gs, p :: ps => rowG (askG gs p) ps
theorem rowG_len : ∀ (ps : List Int) (gs : List Gap), (rowG gs ps).length = gs.length
  | [], _ => rfl
  | p :: ps, gs => by unfold rowG; rw [rowG_len ps, askG_len]
theorem rowG_app : ∀ (ps qs : List Int) (gs : List Gap), rowG gs (ps ++ qs) = rowG (rowG gs ps) qs
  | [], _, _ => rfl
  | p :: ps, qs, gs => rowG_app ps qs _
theorem rowN_app (ns : List (List Nat)) : ∀ (ps qs : List Int) (gs : List Gap), rowN ns gs (ps ++ qs) = rowN ns gs ps ++ rowN ns (rowG gs ps) qs
  | [], _, _ => rfl
  | p :: ps, qs, gs => by
    show _ :: rowN ns _ (ps ++ qs) = _ :: rowN ns _ ps ++ _
    rw [rowN_app ns ps qs]
    rfl
theorem rowN_len (ns : List (List Nat)) : ∀ (ps : List Int) (gs : List Gap), (rowN ns gs ps).length = ps.length
  | [], _ => rfl
  | p :: ps, gs => by show (rowN ns _ ps).length + 1 = _; rw [rowN_len ns ps]; rfl
theorem tellN_le (gs : List Gap) (p : Int) : tellN gs p ≤ gs.length := List.findIdx_le_length
theorem told_at {ns : List (List Nat)} {gs : List Gap} {p : Int} (h : ns.length = gs.length + 1) : ns[tellN gs p]? = some (ns.getD (tellN gs p) []) := by
  have := tellN_le gs p
  rw [List.getD_eq_getElem?_getD, List.getElem?_eq_getElem (by omega)]
  rfl
def SpAskedRow (C : Ct) : Prop := ∀ o (ns : List (List Nat)) (gs : List Gap) (ps : List Int) Q, Lt o (ps.map .int) → ns.length = gs.length + 1 → gs.length ≤ 10000 → ps.length ≤ 10000 → Q (.d (.tup [.lst ((rowN ns gs ps).map nmD), formD ns (rowG gs ps)])) [some (.d (formD ns (rowG gs ps))), some o] → C "asked_row" [.d (formD ns gs), o] Q
theorem asked_row_ok {T : Tab} (tm : T "mark" = some ⟨2, 2, B_mark, false⟩) (tt : T "tells" = some ⟨2, 7, B_tells, false⟩) (tg : T "gap_at" = some ⟨2, 5, B_gap_at, false⟩) (tw : T "with_gap" = some ⟨3, 5, B_with_gap, false⟩) (ta : T "asked" = some ⟨2, 6, B_asked, false⟩) (tr : T "asked_row" = some ⟨2, 5, B_asked_row, false⟩) : ∀ k, 4 ≤ k → SpAskedRow (call T k) := lvl 4 fun j o ns gs ps Q ho hl hg hp hq => by
  have as := asked_ok tm tt tg tw ta (j + 3) (by omega)
  refine run_call tr rfl ?_
  generalize call T (j + 3) = C at as ⊢
  have go : ∀ (ol : Option O) (ul : St → St), (∀ x a b c, ul [x, ol, a, b, c] = [x, some o, a, b, c]) → forL (.nm 3) (fun D s => normK s fun s => rS C (.seq (.asg (.tp (.cons (.nm 4) (.cons (.nm 0) .nil))) (.call "asked" (.cons (.fz (.var 0)) (.cons (.fz (.var 3)) .nil)))) (.ex (.chg .append 2 (.cons (.var 4) .nil)))) D s) ul { rEnds 2 Q with nx := fun s1 => rS C (.ret (.tup (.cons (.var 2) (.cons (.var 0) .nil)))) (rEnds 2 Q) s1 } (ps.map .int) [some (.d (formD ns gs)), ol, some (.l false []), none, none] := by
    intro ol ul hul
    refine forL_inv _ (fun i s => ∃ o3 o4, fr o3 ∧ fr o4 ∧ s = [some (.d (formD ns (rowG gs (ps.take i)))), ol, some (.l false ((rowN ns gs (ps.take i)).map nmD)), o3, o4]) (fun i z s N hN hz hs => ?_) (fun s hs => ?_) _ ⟨none, none, fr.n, fr.n, rfl⟩
    · obtain ⟨o3, o4, f3, f4, rfl⟩ := hs
      obtain ⟨p, hp', rfl⟩ := mapD_at hz
      have hi := (List.getElem?_eq_some_iff.mp hp').1
      refine ⟨_, put_fr rfl f3, ?_⟩
      have l2 : ns.length = (rowG gs (ps.take i)).length + 1 := by rw [rowG_len]; exact hl
      refine as _ _ _ _ _ l2 (by rw [rowG_len]; exact hg) (told_at l2) ?_
      show putK _ _ _ _
      refine putK_of rfl f4 ?_
      refine ⟨?_, ?_⟩
      · show ((rowN ns gs (ps.take i)).map nmD).length < 16777216
        rw [List.length_map, rowN_len, List.length_take]; omega
      · refine hN _ ⟨some (.d (.int p)), some (.d (nmD (ns.getD (tellN (rowG gs (ps.take i)) p) []))), fr.x, fr.x, ?_⟩
        have e : ps.take (i + 1) = ps.take i ++ [p] := by rw [List.take_add_one, hp']; rfl
        rw [e, rowG_app, rowN_app, List.map_append]
        rfl
    · obtain ⟨o3, o4, f3, f4, rfl⟩ := hs
      rw [hul, List.length_map, List.take_length]
      exact ⟨Nat.le_of_ble_eq_true rfl, hq⟩
  rcases ho with rfl | rfl
  · refine ⟨Nat.zero_le _, ?_⟩
    exact go (some (.d (.lst (ps.map .int)))) (unlock []) fun _ _ _ _ => rfl
  · refine ⟨Nat.zero_le _, ?_⟩
    exact go (some (.k true (ps.map .int))) (unlock [1]) fun _ _ _ _ => rfl
end Itp

/-! Ins: a judged place put to sorted cases; their form behind it is the asked one. -/
namespace Itp
open PySem
theorem gapN_none {gs : List Gap} {p : Int} (h : ∀ g ∈ gs, ¬ (g.1 < p ∧ p < g.2)) : gapN gs p = none := by
  cases e : gapN gs p with
  | none => rfl
  | some i =>
    obtain ⟨g, a, b⟩ := gapN_some e
    exact absurd b (h g (List.mem_of_getElem? a))
theorem gapN_cons_in {g : Gap} {gs : List Gap} {p : Int} (h : g.1 < p ∧ p < g.2) : gapN (g :: gs) p = some 0 := by
  unfold gapN
  rw [List.findIdx_cons, show inP p g = true from decide_eq_true h]
  rfl
theorem gapN_cons_out {g : Gap} {gs : List Gap} {p : Int} (h : ¬ (g.1 < p ∧ p < g.2)) : gapN (g :: gs) p = (gapN gs p).map (· + 1) := by
  unfold gapN
  rw [List.findIdx_cons, show inP p g = false from decide_eq_false h]
  show (if gs.findIdx (inP p) + 1 < gs.length + 1 then _ else _) = _
  by_cases e : gs.findIdx (inP p) < gs.length
  · rw [if_pos (by omega), if_pos e]; rfl
  · rw [if_neg (by omega), if_neg e]; rfl
theorem askG_in {g : Gap} {gs : List Gap} {p : Int} (h : g.1 < p ∧ p < g.2) : askG (g :: gs) p = (if p ≤ mk g then (p, g.2) else (g.1, p)) :: gs := by
  rw [askG_some (gapN_cons_in h) rfl]; rfl
theorem askG_out {g : Gap} {gs : List Gap} {p : Int} (h : ¬ (g.1 < p ∧ p < g.2)) : askG (g :: gs) p = g :: askG gs p := by
  have e := gapN_cons_out (gs := gs) h
  cases q : gapN gs p with
  | none =>
    rw [q] at e
    rw [askG_none e, askG_none q]
  | some i =>
    rw [q] at e
    obtain ⟨g', a, _⟩ := gapN_some q
    rw [askG_some (i := i + 1) e (by simpa using a), askG_some q a]
    rfl
theorem askG_same {gs : List Gap} {p : Int} (h : ∀ g ∈ gs, ¬ (g.1 < p ∧ p < g.2)) : askG gs p = gs := askG_none (gapN_none h)
/-- no judged place lies in a gap -/
theorem gaps_between : ∀ (c : Case) (ds : List Case) (p : Int), (c :: ds).Pairwise (fun a b => a.1 < b.1) → (∃ e ∈ c :: ds, e.1 = p) → ∀ g ∈ gapsC c ds, ¬ (g.1 < p ∧ p < g.2)
  | c, [], p, _, _, g, hg => by simp [gapsC] at hg
  | c, d :: ds, p, hp, ⟨e, he, ep⟩, g, hg => by
    have hcd : c.1 < d.1 := (List.pairwise_cons.mp hp).1 d List.mem_cons_self
    have hp2 := (List.pairwise_cons.mp hp).2
    have rest : g ∈ gapsC d ds → ¬ (g.1 < p ∧ p < g.2) := fun hg' => by
      rcases List.mem_cons.mp he with e1 | he
      · have := (gaps_mem d ds g hp2 hg').1
        rw [e1] at ep
        omega
      · exact gaps_between d ds p hp2 ⟨e, he, ep⟩ g hg'
    unfold gapsC at hg
    split at hg
    · exact rest hg
    · rcases List.mem_cons.mp hg with rfl | hg
      · rcases List.mem_cons.mp he with rfl | he
        · show ¬ (e.1 < p ∧ _); omega
        · have : d.1 ≤ e.1 := by
            rcases List.mem_cons.mp he with rfl | he
            · exact Int.le_refl _
            · exact Int.le_of_lt ((List.pairwise_cons.mp hp2).1 e he)
          show ¬ (_ ∧ p < d.1)
          omega
      · exact rest hg
def insC (x : Case) : List Case → List Case
  | [] => [x]
  | c :: ds => if x.1 < c.1 then x :: c :: ds else c :: insC x ds
theorem ins_perm (x : Case) : ∀ L, (insC x L).Perm (x :: L)
  | [] => .refl _
  | c :: ds => by
    unfold insC
    split
    · exact .refl _
    · exact ((ins_perm x ds).cons c).trans (.swap _ _ _)
theorem ins_inc (x : Case) : ∀ L : List Case, L.Pairwise (fun a b => a.1 < b.1) → (∀ e ∈ L, e.1 ≠ x.1) → (insC x L).Pairwise fun a b => a.1 < b.1
  | [], _, _ => List.pairwise_singleton _ _
  | c :: ds, hp, hn => by
    have h1 := List.pairwise_cons.mp hp
    have hc := hn c List.mem_cons_self
    unfold insC
    split
    · rename_i h
      refine List.pairwise_cons.mpr ⟨fun e he => ?_, hp⟩
      rcases List.mem_cons.mp he with rfl | he
      · exact h
      · have := h1.1 e he; omega
    · rename_i h
      refine List.pairwise_cons.mpr ⟨fun e he => ?_, ins_inc x ds h1.2 fun e he => hn e (List.mem_cons_of_mem _ he)⟩
      rcases List.mem_cons.mp ((ins_perm x ds).mem_iff.mp he) with rfl | he
      · omega
      · exact h1.1 e he
/-- a place ahead of all -/
theorem ins_ahead {c : Case} {ds : List Case} {p : Int} (hp : (c :: ds).Pairwise fun a b => a.1 < b.1) (h : p < c.1) :
    nearC p c ds = c ∧ nmsC (p, c.2) (c :: ds) = nmsC c ds ∧ gapsC (p, c.2) (c :: ds) = gapsC c ds ∧ askG (gapsC c ds) p = gapsC c ds := by
  refine ⟨?_, ?_, ?_, ?_⟩
  · cases ds with
    | nil => rfl
    | cons d ds =>
      have := (List.pairwise_cons.mp hp).1 d List.mem_cons_self
      unfold nearC
      rw [if_pos (by omega)]
  · show (if c.2 = c.2 then _ else _) = _
    rw [if_pos rfl]
  · show (if c.2 = c.2 then _ else _) = _
    rw [if_pos rfl]
  · refine askG_same fun g hg => ?_
    have := (gaps_mem c ds g hp hg).1
    omega
theorem ins_behind : ∀ (c : Case) (ds : List Case) (p : Int), (c :: ds).Pairwise (fun a b => a.1 < b.1) → (∀ e ∈ c :: ds, e.1 ≠ p) → c.1 < p →
    ∃ ds', insC (p, (nearC p c ds).2) (c :: ds) = c :: ds' ∧ nmsC c ds' = nmsC c ds ∧ gapsC c ds' = askG (gapsC c ds) p
  | c, [], p, _, _, h => by
    refine ⟨[(p, c.2)], ?_, ?_, ?_⟩
    · show (if p < c.1 then _ else _) = _
      rw [if_neg (by omega)]
      rfl
    · show (if c.2 = c.2 then _ else _) = _
      rw [if_pos rfl]; rfl
    · show (if c.2 = c.2 then _ else _) = _
      rw [if_pos rfl]; rfl
  | c, d :: ds, p, hp, hn, h => by
    have hcd : c.1 < d.1 := (List.pairwise_cons.mp hp).1 d List.mem_cons_self
    have hp2 := (List.pairwise_cons.mp hp).2
    have hn2 : ∀ e ∈ d :: ds, e.1 ≠ p := fun e he => hn e (List.mem_cons_of_mem _ he)
    have hd := hn2 d List.mem_cons_self
    have i1 : ∀ v, insC (p, v) (c :: d :: ds) = c :: insC (p, v) (d :: ds) := fun v => by
      show (if p < c.1 then _ else _) = _
      rw [if_neg (by omega)]
    by_cases hpd : p < d.1
    · -- between the first two
      obtain ⟨a1, a2, a3, a4⟩ := ins_ahead hp2 hpd
      have i2 : ∀ v, insC (p, v) (d :: ds) = (p, v) :: d :: ds := fun v => by
        show (if p < d.1 then _ else _) = _
        rw [if_pos hpd]
      by_cases hm : 2 * p ≤ c.1 + d.1
      · have en : nearC p c (d :: ds) = c := by unfold nearC; rw [if_pos hm]
        rw [en, i1, i2]
        refine ⟨_, rfl, ?_, ?_⟩
        · show (if c.2 = c.2 then (if c.2 = d.2 then _ else _) else _) = (if c.2 = d.2 then _ else _)
          rw [if_pos rfl]
        · show (if c.2 = c.2 then (if c.2 = d.2 then _ else _) else _) = askG (if c.2 = d.2 then _ else _) p
          rw [if_pos rfl]
          by_cases e : c.2 = d.2
          · rw [if_pos e, if_pos e, a4]
          · rw [if_neg e, if_neg e, askG_in (show c.1 < p ∧ p < d.1 from ⟨h, hpd⟩), if_pos (show p ≤ mk (c.1, d.1) by show p ≤ (c.1 + d.1) / 2; omega)]
      · have en : nearC p c (d :: ds) = d := by unfold nearC; rw [if_neg hm, a1]
        rw [en, i1, i2]
        refine ⟨_, rfl, ?_, ?_⟩
        · show (if c.2 = d.2 then nmsC (p, d.2) (d :: ds) else c.2 :: nmsC (p, d.2) (d :: ds)) = (if c.2 = d.2 then _ else _)
          rw [a2]
        · show (if c.2 = d.2 then gapsC (p, d.2) (d :: ds) else (c.1, p) :: gapsC (p, d.2) (d :: ds)) = askG (if c.2 = d.2 then _ else _) p
          rw [a3]
          by_cases e : c.2 = d.2
          · rw [if_pos e, if_pos e, a4]
          · rw [if_neg e, if_neg e, askG_in (show c.1 < p ∧ p < d.1 from ⟨h, hpd⟩), if_neg (show ¬ p ≤ mk (c.1, d.1) by show ¬ p ≤ (c.1 + d.1) / 2; omega)]
    · have en : nearC p c (d :: ds) = nearC p d ds := by
        show (if 2 * p ≤ c.1 + d.1 then c else nearC p d ds) = _
        rw [if_neg (by omega)]
      obtain ⟨ds', b1, b2, b3⟩ := ins_behind d ds p hp2 hn2 (by omega)
      rw [en, i1, b1]
      refine ⟨_, rfl, ?_, ?_⟩
      · show (if c.2 = d.2 then _ else _) = (if c.2 = d.2 then _ else _)
        rw [b2]
      · show (if c.2 = d.2 then gapsC d ds' else (c.1, d.1) :: gapsC d ds') = askG (if c.2 = d.2 then _ else _) p
        rw [b3]
        by_cases e : c.2 = d.2
        · rw [if_pos e, if_pos e]
        · rw [if_neg e, if_neg e, askG_out (show ¬ (c.1 < p ∧ p < d.1) by omega)]
/-- the map behind an ask -/
def putCs (L : List Case) (x : Case) : List Case := if x.1 ∈ L.map (·.1) then L else insC x L
theorem near_mem (p : Int) : ∀ (c : Case) (ds : List Case), nearC p c ds ∈ c :: ds
  | c, [] => List.mem_cons_self
  | c, d :: ds => by
    unfold nearC
    split
    · exact List.mem_cons_self
    · exact List.mem_cons_of_mem _ (near_mem p d ds)
theorem put_form {c : Case} {ds : List Case} {p : Int} (ok : CasesOk (c :: ds)) (p0 : -(10 ^ 60) ≤ p) (p1 : p ≤ 10 ^ 60) : ∃ c' ds', putCs (c :: ds) (p, (nearC p c ds).2) = c' :: ds' ∧ CasesOk (c' :: ds') ∧ ds'.length ≤ ds.length + 1 ∧ nmsC c' ds' = nmsC c ds ∧ gapsC c' ds' = askG (gapsC c ds) p := by
  unfold putCs
  by_cases h : p ∈ (c :: ds).map (·.1)
  · rw [if_pos h]
    obtain ⟨e, he, ep⟩ := List.mem_map.mp h
    exact ⟨c, ds, rfl, ok, by omega, rfl, (askG_same (gaps_between c ds p ok.inc ⟨e, he, ep⟩)).symm⟩
  · rw [if_neg h]
    have hn : ∀ e ∈ c :: ds, e.1 ≠ p := fun e he z => h (List.mem_map.mpr ⟨e, he, z⟩)
    have pm := ins_perm (p, (nearC p c ds).2) (c :: ds)
    have inc := ins_inc (p, (nearC p c ds).2) (c :: ds) ok.inc hn
    have ok' : CasesOk (insC (p, (nearC p c ds).2) (c :: ds)) := by
      refine ⟨inc, fun e he => ?_, fun e he => ?_⟩
      · rcases List.mem_cons.mp (pm.mem_iff.mp he) with rfl | he
        · show NameOk (nearC p c ds).2
          exact ok.nm _ (near_mem p c ds)
        · exact ok.nm e he
      · rcases List.mem_cons.mp (pm.mem_iff.mp he) with rfl | he
        · exact ⟨p0, p1⟩
        · exact ok.far e he
    have ln := pm.length_eq
    by_cases hc : p < c.1
    · obtain ⟨a1, a2, a3, a4⟩ := ins_ahead ok.inc hc
      have e : insC (p, (nearC p c ds).2) (c :: ds) = (p, c.2) :: c :: ds := by
        rw [a1]
        show (if p < c.1 then _ else _) = _
        rw [if_pos hc]
      rw [e] at ok' ln ⊢
      exact ⟨_, _, rfl, ok', by simp, a2, by rw [a3, a4]⟩
    · have hc' := hn c List.mem_cons_self
      obtain ⟨ds', b1, b2, b3⟩ := ins_behind c ds p ok.inc hn (by omega)
      rw [b1] at ok' ln ⊢
      exact ⟨_, _, rfl, ok', by simp at ln; omega, b2, b3⟩
theorem gaps_far {c : Case} {ds : List Case} (ok : CasesOk (c :: ds)) : ∀ g ∈ gapsC c ds, -(10 ^ 60) ≤ g.1 ∧ g.2 ≤ 10 ^ 60 := fun g hg => by
  obtain ⟨_, _, ⟨e, a, b⟩, f, x, y⟩ := gaps_mem c ds g ok.inc hg
  have h1 := ok.far e a
  have h2 := ok.far f x
  omega
theorem nms_le : ∀ (c : Case) (ds : List Case), (nmsC c ds).length ≤ ds.length + 1
  | _, [] => Nat.le_refl _
  | c, d :: ds => by
    have := nms_le d ds
    unfold nmsC
    split
    · simp; omega
    · simp; omega
theorem any_int (p : Int) : ∀ ns : List Int, ((D.pyAll (ns.map .int)).any fun y => PyData.eqv y (D.int p).py) = decide (p ∈ ns)
  | [] => by simp [D.pyAll]
  | n :: ns => by
    have ih := any_int p ns
    rw [List.map_cons, D.pyAll, List.any_cons, ih, eqv_int]
    by_cases h : n = p
    · subst h; simp
    · have h' : ¬ p = n := fun z => h z.symm
      simp [h, h']
theorem ints_ok (ns : List Int) : (D.lst (ns.map .int)).ok := ok_lst (n := 0) (by decide) fun x hx => by
  obtain ⟨k, _, rfl⟩ := List.mem_map.mp hx
  exact ⟨rfl, rfl, Nat.le_refl _⟩
end Itp

namespace K18
open PySem Itp
def topS (i : Nat) : Stmt := PySem.Challenge.pw_nearcase_k18_order_says_nothing.main.body.getD i (.Pass ⟨0, 0, 0, 0⟩)
def b_cases_of : S := .root 1 (.seq (.ite (.or_ (.not_ (.isi (.var 0) "list")) (.cmp .Eq (.var 0) (.lst .nil))) .never .skip) (.seq (.asg (.nm 2) (.dnw 1 false)) (.seq (.for_ (.tp (.cons (.nm 3) (.cons (.nm 4) .nil))) .enum (.cons (.var 0) .nil) (.seq (.ite (.or_ (.cmp .Eq (.var 3) (.cst (.int 60))) (.or_ (.not_ (.call "is_case" (.cons (.fz (.var 4)) .nil))) (.cmp .In (.idx (.var 4) (.cst (.int 0))) (.at_ 1 (.var 2))))) .never .skip) (.seth 1 (.at_ 1 (.var 2)) (.idx (.var 4) (.cst (.int 0))) (.cst (.bl true))))) (.ret (.srt (.var 0))))))
def b_h__law_all : S := .rgn 2 (.seq (.asgd 3 (.comp [5] (.nm 5) .plain (.cons (.var 1) .nil) .nop (.call "nearest" (.cons (.fz (.var 0)) (.cons (.fz (.var 5)) .nil))))) (.seq (.asgd 4 (.comp [5] (.nm 5) .plain (.cons (.var 1) .nil) .nop (.call "judged" (.cons (.fz (.var 0)) (.cons (.fz (.var 5)) .nil))))) (.ret (.lst (.cons (.var 3) (.cons (.var 4) (.cons (.cel 2 (.call "stretches" (.cons (.fz (.var 0)) .nil))) (.cons (.cel 2 (.call "borders" (.cons (.fz (.var 0)) .nil))) (.cons (.cel 2 (.call "cases_of" (.cons (.fz (.var 0)) .nil))) .nil)))))))))
def b_law : S := .root 1 (.seq (.asg (.nm 2) (.call "_law_hand" (.cons (.fz (.var 0)) .nil))) (.seq (.asgd 3 (.call "_law_cases" (.cons (.var 2) (.cons (.fz (.idx (.lst (.cons (.cst (.int 4)) (.cons (.cst (.int 12)) (.cons (.cst (.int 60)) .nil)))) (.call "_law_draw" (.cons (.var 2) (.cons (.cst (.int 3)) .nil))))) .nil)))) (.seq (.asg (.nm 4) (.lst .nil)) (.seq (.for_ (.nm 5) .range (.cons (.cst (.int 10)) .nil) (.seq (.asg (.nm 6) (.idx (.idx (.var 3) (.call "_law_draw" (.cons (.var 2) (.cons (.fz (.blt .len (.cons (.var 3) .nil))) .nil)))) (.cst (.int 0)))) (.seq (.asg (.nm 7) (.idx (.idx (.var 3) (.call "_law_draw" (.cons (.var 2) (.cons (.fz (.blt .len (.cons (.var 3) .nil))) .nil)))) (.cst (.int 0)))) (.ex (.chg .append 4 (.cons (.idx (.lst (.cons (.var 6) (.cons (.bin .FloorDiv (.bin .Add (.var 6) (.var 7)) (.cst (.int 2))) (.cons (.blt .max (.cons (.neg (.bin .Pow (.cst (.int 10)) (.cst (.int 60)))) (.cons (.bin .Sub (.var 6) (.call "_law_draw" (.cons (.var 2) (.cons (.cst (.int 9)) .nil)))) .nil))) .nil)))) (.call "_law_draw" (.cons (.var 2) (.cons (.cst (.int 3)) .nil)))) .nil)))))) (.seq (.asgd 8 (.lst (.cons (.call "_law_shuffled" (.cons (.var 2) (.cons (.fz (.var 3)) .nil))) (.cons (.call "_law_shuffled" (.cons (.var 2) (.cons (.fz (.var 3)) .nil))) (.cons (.rv (.var 3)) (.cons (.blt .list (.cons (.var 3) .nil)) .nil)))))) (.seq (.asgd 9 (.comp [6] (.nm 6) .plain (.cons (.var 8) .nil) .nop (.blt .list (.cons (.var 6) .nil)))) (.seq (.asgd 10 (.clh false 1 "@_law_all" (.cons (.fz (.blt .list (.cons (.var 3) .nil))) (.cons (.var 4) .nil)))) (.seq (.for_ (.nm 11) .plain (.cons (.bin .Add (.var 8) (.slc (.var 8) .nop (.cst (.int 1)))) .nil) (.seq (.asgd 12 (.clh false 1 "@_law_all" (.cons (.fz (.var 11)) (.cons (.var 4) .nil)))) (.seq (.ite (.cmd 1 .NotEq (.var 12) (.var 10)) (.ret (.cst (.bl false))) .skip) (.for_ (.nm 5) .range (.cons (.cst (.int 2)) (.cons (.cst (.int 5)) .nil)) (.ex (.chc 1 .append (.at_ 1 (.idx (.var 12) (.var 5))) (.cons (.tup (.cons (.cst (.str "x")) (.cons (.cst (.int 0)) .nil))) .nil))))))) (.ret (.and_ (.cmp .Eq (.var 8) (.var 9)) (.cmd 1 .Eq (.clh false 1 "@_law_all" (.cons (.fz (.idx (.var 9) (.cst (.int 1)))) (.cons (.var 4) .nil))) (.var 10))))))))))))
def tabL : List (Str × Fn) := ("nearest", ⟨2, 4, B_nearest, false⟩) :: ("judged", ⟨2, 2, B_judged, false⟩) :: ("stretches", ⟨1, 5, B_stretches, false⟩) :: ("borders", ⟨1, 4, B_borders, false⟩) :: ("is_number", ⟨1, 1, B_is_number, false⟩) :: ("is_place", ⟨1, 1, B_is_place, false⟩) :: ("is_name", ⟨1, 2, B_is_name, false⟩) :: ("is_case", ⟨1, 1, B_is_case, false⟩) :: ("cases_of", ⟨1, 5, b_cases_of, false⟩) :: ("_law_hand", ⟨1, 1, handB, false⟩) :: ("_law_step", ⟨1, 1, stepB, false⟩) :: ("_law_take", ⟨1, 2, takeB, false⟩) :: ("_law_draw", ⟨2, 5, drawB, false⟩) :: ("_law_names", ⟨2, 8, B_l_names, false⟩) :: ("_law_cases", ⟨2, 12, B_l_cases, false⟩) :: ("_law_shuffled", ⟨2, 4, B_l_shuffled, false⟩) :: ("@_law_all", ⟨3, 6, b_h__law_all, false⟩) :: ("law", ⟨1, 13, b_law, false⟩) :: []
def tab : Tab := fun f => tabL.lookup f
def gs : Gs := ⟨["nearest", "judged", "stretches", "borders", "is_number", "is_place", "is_name", "is_case", "cases_of", "_law_hand", "_law_step", "_law_take", "_law_draw", "_law_names", "_law_cases", "_law_shuffled", "law"], [("FAR", .int 1000000000000000000000000000000000000000000000000000000000000), ("MOST_CASES", .int 60), ("MOST_LETTERS", .int 8)], [(["cases", "parts", "one", "other"], ["parts"]), (["_law_hand_here", "_law_limit", "_law_names_here", "_law_wide", "_law_spare", "_law_ways", "_law_place", "_law_cases_here", "_law_name", "_law_k", "_law_others", "_law_one"], ["_law_names_here", "_law_others", "_law_ways"]), (["_law_handed", "_law_places", "@", "_law_told", "_law_names_here", "_law_place"], ["_law_names_here", "_law_told"]), (["_law_script", "#", "_law_hand_here", "_law_cases_here", "_law_places", "_law_k", "_law_one", "_law_other", "_law_orders", "_law_kept", "_law_due", "_law_handed", "_law_found"], ["_law_cases_here", "_law_due", "_law_found", "_law_kept", "_law_orders"])], [(["cases", "found", "place", "name", "first"], ["found"]), (["thing", "#", "known", "at", "one"], ["known"]), (["_law_hand_here"], ["_law_hand_here"]), (["_law_hand_here", "_law_cell"], ["_law_hand_here"]), (["_law_hand_here", "_law_tally", "_law_got", "_law_value", "_law_size"], ["_law_hand_here"]), (["_law_hand_here", "_law_tally", "_law_letters", "_law_word", "_law_at", "_law_first", "_law_names_here", "_law_k"], ["_law_hand_here", "_law_names_here", "_law_word"]), (["_law_hand_here", "_law_limit", "_law_names_here", "_law_wide", "_law_spare", "_law_ways", "_law_place", "_law_cases_here", "_law_name", "_law_k", "_law_others", "_law_one"], ["_law_cases_here", "_law_hand_here"]), (["_law_hand_here", "_law_some", "_law_left", "_law_found"], ["_law_found", "_law_hand_here", "_law_left"]), (["_law_script", "#", "_law_hand_here", "_law_cases_here", "_law_places", "_law_k", "_law_one", "_law_other", "_law_orders", "_law_kept", "_law_due", "_law_handed", "_law_found"], ["_law_hand_here", "_law_places"])], [], false, [], [], [], [(⟨46, 12, 46, 14⟩, 7), (⟨48, 61, 48, 66⟩, 1), (⟨50, 8, 50, 28⟩, 20), (⟨50, 8, 50, 13⟩, 1), (⟨122, 40, 122, 62⟩, 2), (⟨122, 64, 122, 84⟩, 2), (⟨122, 86, 122, 107⟩, 2), (⟨136, 11, 136, 33⟩, 5), (⟨139, 12, 139, 47⟩, 6), (⟨139, 12, 139, 30⟩, 1), (⟨140, 40, 140, 87⟩, 5), (⟨133, 15, 133, 59⟩, 3), (⟨135, 21, 135, 55⟩, 3), (⟨140, 40, 140, 75⟩, 3)], [("_law_all", "@_law_all")], []⟩
theorem t_nearest : tab "nearest" = some ⟨2, 4, B_nearest, false⟩ := by kernel_rfl
theorem c_nearest : compD ["cases", "place", "best", "one"] ["cases", "place"] gs false (topS 1) = some ⟨2, 4, B_nearest, false⟩ := by kernel_rfl
theorem s_nearest : L2.FnScope ["cases", "place", "best", "one"] ["cases", "place"] (L2.defScope (topS 1)) := ⟨rfl, rfl, rfl, by decide +kernel, rfl, by decide +kernel, by decide +kernel⟩
theorem t_judged : tab "judged" = some ⟨2, 2, B_judged, false⟩ := by kernel_rfl
theorem c_judged : compD ["cases", "place"] ["cases", "place"] gs false (topS 2) = some ⟨2, 2, B_judged, false⟩ := by kernel_rfl
theorem s_judged : L2.FnScope ["cases", "place"] ["cases", "place"] (L2.defScope (topS 2)) := ⟨rfl, rfl, rfl, by decide +kernel, rfl, by decide +kernel, by decide +kernel⟩
theorem t_stretches : tab "stretches" = some ⟨1, 5, B_stretches, false⟩ := by kernel_rfl
theorem c_stretches : compD ["cases", "found", "place", "name", "first"] ["cases"] gs false (topS 3) = some ⟨1, 5, B_stretches, false⟩ := by kernel_rfl
theorem s_stretches : L2.FnScope ["cases", "found", "place", "name", "first"] ["cases"] (L2.defScope (topS 3)) := ⟨rfl, rfl, rfl, by decide +kernel, rfl, by decide +kernel, by decide +kernel⟩
theorem t_borders : tab "borders" = some ⟨1, 4, B_borders, false⟩ := by kernel_rfl
theorem c_borders : compD ["cases", "parts", "one", "other"] ["cases"] gs false (topS 4) = some ⟨1, 4, B_borders, false⟩ := by kernel_rfl
theorem s_borders : L2.FnScope ["cases", "parts", "one", "other"] ["cases"] (L2.defScope (topS 4)) := ⟨rfl, rfl, rfl, by decide +kernel, rfl, by decide +kernel, by decide +kernel⟩
theorem t_is_number : tab "is_number" = some ⟨1, 1, B_is_number, false⟩ := by kernel_rfl
theorem c_is_number : compD ["thing"] ["thing"] gs false (topS 12) = some ⟨1, 1, B_is_number, false⟩ := by kernel_rfl
theorem s_is_number : L2.FnScope ["thing"] ["thing"] (L2.defScope (topS 12)) := ⟨rfl, rfl, rfl, by decide +kernel, rfl, by decide +kernel, by decide +kernel⟩
theorem t_is_place : tab "is_place" = some ⟨1, 1, B_is_place, false⟩ := by kernel_rfl
theorem c_is_place : compD ["thing"] ["thing"] gs false (topS 13) = some ⟨1, 1, B_is_place, false⟩ := by kernel_rfl
theorem s_is_place : L2.FnScope ["thing"] ["thing"] (L2.defScope (topS 13)) := ⟨rfl, rfl, rfl, by decide +kernel, rfl, by decide +kernel, by decide +kernel⟩
theorem t_is_name : tab "is_name" = some ⟨1, 2, B_is_name, false⟩ := by kernel_rfl
theorem c_is_name : compD ["thing", "sign"] ["thing"] gs false (topS 14) = some ⟨1, 2, B_is_name, false⟩ := by kernel_rfl
theorem s_is_name : L2.FnScope ["thing", "sign"] ["thing"] (L2.defScope (topS 14)) := ⟨rfl, rfl, rfl, by decide +kernel, rfl, by decide +kernel, by decide +kernel⟩
theorem t_is_case : tab "is_case" = some ⟨1, 1, B_is_case, false⟩ := by kernel_rfl
theorem c_is_case : compD ["thing"] ["thing"] gs false (topS 15) = some ⟨1, 1, B_is_case, false⟩ := by kernel_rfl
theorem s_is_case : L2.FnScope ["thing"] ["thing"] (L2.defScope (topS 15)) := ⟨rfl, rfl, rfl, by decide +kernel, rfl, by decide +kernel, by decide +kernel⟩
theorem t_cases_of : tab "cases_of" = some ⟨1, 5, b_cases_of, false⟩ := by kernel_rfl
theorem c_cases_of : compD ["thing", "#", "known", "at", "one"] ["thing"] gs false (topS 16) = some ⟨1, 5, b_cases_of, false⟩ := by kernel_rfl
theorem s_cases_of : L2.FnScope ["thing", "#", "known", "at", "one"] ["thing"] (L2.defScope (topS 16)) := ⟨rfl, rfl, rfl, by decide +kernel, rfl, by decide +kernel, by decide +kernel⟩
theorem t__law_hand : tab "_law_hand" = some ⟨1, 1, handB, false⟩ := by kernel_rfl
theorem c__law_hand : compD ["_law_script"] ["_law_script"] gs false (topS 18) = some ⟨1, 1, handB, false⟩ := by kernel_rfl
theorem s__law_hand : L2.FnScope ["_law_script"] ["_law_script"] (L2.defScope (topS 18)) := ⟨rfl, rfl, rfl, by decide +kernel, rfl, by decide +kernel, by decide +kernel⟩
theorem t__law_step : tab "_law_step" = some ⟨1, 1, stepB, false⟩ := by kernel_rfl
theorem c__law_step : compD ["_law_hand_here"] ["_law_hand_here"] gs false (topS 19) = some ⟨1, 1, stepB, false⟩ := by kernel_rfl
theorem s__law_step : L2.FnScope ["_law_hand_here"] ["_law_hand_here"] (L2.defScope (topS 19)) := ⟨rfl, rfl, rfl, by decide +kernel, rfl, by decide +kernel, by decide +kernel⟩
theorem t__law_take : tab "_law_take" = some ⟨1, 2, takeB, false⟩ := by kernel_rfl
theorem c__law_take : compD ["_law_hand_here", "_law_cell"] ["_law_hand_here"] gs false (topS 20) = some ⟨1, 2, takeB, false⟩ := by kernel_rfl
theorem s__law_take : L2.FnScope ["_law_hand_here", "_law_cell"] ["_law_hand_here"] (L2.defScope (topS 20)) := ⟨rfl, rfl, rfl, by decide +kernel, rfl, by decide +kernel, by decide +kernel⟩
theorem t__law_draw : tab "_law_draw" = some ⟨2, 5, drawB, false⟩ := by kernel_rfl
theorem c__law_draw : compD ["_law_hand_here", "_law_tally", "_law_got", "_law_value", "_law_size"] ["_law_hand_here", "_law_tally"] gs false (topS 21) = some ⟨2, 5, drawB, false⟩ := by kernel_rfl
theorem s__law_draw : L2.FnScope ["_law_hand_here", "_law_tally", "_law_got", "_law_value", "_law_size"] ["_law_hand_here", "_law_tally"] (L2.defScope (topS 21)) := ⟨rfl, rfl, rfl, by decide +kernel, rfl, by decide +kernel, by decide +kernel⟩
theorem t__law_names : tab "_law_names" = some ⟨2, 8, B_l_names, false⟩ := by kernel_rfl
theorem c__law_names : compD ["_law_hand_here", "_law_tally", "_law_letters", "_law_word", "_law_at", "_law_first", "_law_names_here", "_law_k"] ["_law_hand_here", "_law_tally"] gs false (topS 22) = some ⟨2, 8, B_l_names, false⟩ := by kernel_rfl
theorem s__law_names : L2.FnScope ["_law_hand_here", "_law_tally", "_law_letters", "_law_word", "_law_at", "_law_first", "_law_names_here", "_law_k"] ["_law_hand_here", "_law_tally"] (L2.defScope (topS 22)) := ⟨rfl, rfl, rfl, by decide +kernel, rfl, by decide +kernel, by decide +kernel⟩
theorem t__law_cases : tab "_law_cases" = some ⟨2, 12, B_l_cases, false⟩ := by kernel_rfl
theorem c__law_cases : compD ["_law_hand_here", "_law_limit", "_law_names_here", "_law_wide", "_law_spare", "_law_ways", "_law_place", "_law_cases_here", "_law_name", "_law_k", "_law_others", "_law_one"] ["_law_hand_here", "_law_limit"] gs false (topS 23) = some ⟨2, 12, B_l_cases, false⟩ := by kernel_rfl
theorem s__law_cases : L2.FnScope ["_law_hand_here", "_law_limit", "_law_names_here", "_law_wide", "_law_spare", "_law_ways", "_law_place", "_law_cases_here", "_law_name", "_law_k", "_law_others", "_law_one"] ["_law_hand_here", "_law_limit"] (L2.defScope (topS 23)) := ⟨rfl, rfl, rfl, by decide +kernel, rfl, by decide +kernel, by decide +kernel⟩
theorem t__law_shuffled : tab "_law_shuffled" = some ⟨2, 4, B_l_shuffled, false⟩ := by kernel_rfl
theorem c__law_shuffled : compD ["_law_hand_here", "_law_some", "_law_left", "_law_found"] ["_law_hand_here", "_law_some"] gs false (topS 24) = some ⟨2, 4, B_l_shuffled, false⟩ := by kernel_rfl
theorem s__law_shuffled : L2.FnScope ["_law_hand_here", "_law_some", "_law_left", "_law_found"] ["_law_hand_here", "_law_some"] (L2.defScope (topS 24)) := ⟨rfl, rfl, rfl, by decide +kernel, rfl, by decide +kernel, by decide +kernel⟩
theorem t_h__law_all : tab "@_law_all" = some ⟨3, 6, b_h__law_all, false⟩ := by kernel_rfl
theorem c_h__law_all : compD ["_law_handed", "_law_places", "@", "_law_told", "_law_names_here", "_law_place"] ["_law_handed", "_law_places"] gs false (topS 25) = some ⟨3, 6, b_h__law_all, false⟩ := by kernel_rfl
theorem s_h__law_all : L2.FnScope ["_law_handed", "_law_places", "@", "_law_told", "_law_names_here", "_law_place"] ["_law_handed", "_law_places"] (L2.defScope (topS 25)) := ⟨rfl, rfl, rfl, by decide +kernel, rfl, by decide +kernel, by decide +kernel⟩
theorem t_law : tab "law" = some ⟨1, 13, b_law, false⟩ := by kernel_rfl
theorem c_law : compD ["_law_script", "#", "_law_hand_here", "_law_cases_here", "_law_places", "_law_k", "_law_one", "_law_other", "_law_orders", "_law_kept", "_law_due", "_law_handed", "_law_found"] ["_law_script"] gs false (topS 26) = some ⟨1, 13, b_law, false⟩ := by kernel_rfl
theorem s_law : L2.FnScope ["_law_script", "#", "_law_hand_here", "_law_cases_here", "_law_places", "_law_k", "_law_one", "_law_other", "_law_orders", "_law_kept", "_law_due", "_law_handed", "_law_found"] ["_law_script"] (L2.defScope (topS 26)) := ⟨rfl, rfl, rfl, by decide +kernel, rfl, by decide +kernel, by decide +kernel⟩
theorem drawT : DrawT tab := ⟨t__law_hand, t__law_step, t__law_take, t__law_draw⟩
def caseT (c : Case) : D := caseD c
def SpIsCase (C : Ct) : Prop := ∀ (c : Case) Q, NameOk c.2 → -(10 ^ 60) ≤ c.1 → c.1 ≤ 10 ^ 60 → Q (.d (.bl true)) [some (.d (caseD c))] → C "is_case" [.d (caseD c)] Q
theorem is_case_ok : ∀ k, 3 ≤ k → SpIsCase (call tab k) := lvl 3 fun j c Q hn h1 h2 hq => by
  have ip := is_place_ok t_is_number t_is_place (j + 2) (by omega)
  have im := is_name_ok t_is_name (j + 2) (by omega)
  refine run_call t_is_case rfl ?_
  generalize call tab (j + 2) = C at ip im ⊢
  refine ⟨_, rfl, ?_⟩
  refine ip _ _ h1 h2 ?_
  refine ⟨_, rfl, ?_⟩
  refine im _ _ hn ?_
  exact hq
def keyC (c : Case) : L2.Key := .inl c.1
def SpCasesOf (C : Ct) : Prop := ∀ o (cs : List Case) Q, Lt o (cs.map caseD) → NamesOk cs → (∀ c ∈ cs, -(10 ^ 60) ≤ c.1 ∧ c.1 ≤ 10 ^ 60) → (cs.map (·.1)).Nodup → 1 ≤ cs.length → cs.length ≤ 60 →
  Q (.l false ((sortC cs).map caseD)) [some o] → C "cases_of" [o] Q
theorem key_new {cs : List Case} (nd : (cs.map (·.1)).Nodup) {i : Nat} {c : Case} (h : cs[i]? = some c) : keyC c ∉ (cs.take i).map keyC := fun z => by
  obtain ⟨d, hd, e⟩ := List.mem_map.mp z
  have e : d.1 = c.1 := by simpa [keyC] using e
  obtain ⟨m, hm⟩ := List.getElem?_of_mem hd
  have lm : m < i := by
    have := (List.getElem?_eq_some_iff.mp hm).1
    rw [List.length_take] at this; omega
  rw [List.getElem?_take_of_lt lm] at hm
  have a1 : (cs.map (·.1))[m]? = some c.1 := by rw [List.getElem?_map, hm]; simp [e]
  have a2 : (cs.map (·.1))[i]? = some c.1 := by rw [List.getElem?_map, h]; rfl
  have := (List.getElem?_inj (List.getElem?_eq_some_iff.mp a1).1 nd).mp (a1.trans a2.symm)
  omega
theorem cases_of_ok : ∀ k, 4 ≤ k → SpCasesOf (call tab k) := lvl 4 fun j o cs Q ho hn hf nd l1 l2 hq => by
  have ic := is_case_ok (j + 3) (by omega)
  refine run_call t_cases_of rfl ?_
  generalize call tab (j + 3) = C at ic ⊢
  obtain ⟨c0, ds0, rfl⟩ : ∃ c0 ds0, cs = c0 :: ds0 := by cases cs with | nil => simp at l1 | cons c ds => exact ⟨c, ds, rfl⟩
  have okL := cases_ok hn
  have lo : srtD ((c0 :: ds0).map caseD) = (sortC (c0 :: ds0)).map caseD := srt_cases nd
  have step : ∀ (o1 : O) (a : Addr) (E : En) (ul : St → St), (∀ o3 o4 ks vs, fr o3 → fr o4 → E.nx (ul [some o1, some (.h [(a, .dcK ks vs)] []), some (.d (.ref a)), o3, o4])) →
      forL (.tp (.cons (.nm 3) (.cons (.nm 4) .nil))) (fun D s => normK s fun s => rS C (.seq (.ite (.or_ (.cmp .Eq (.var 3) (.cst (.int 60))) (.or_ (.not_ (.call "is_case" (.cons (.fz (.var 4)) .nil))) (.cmp .In (.idx (.var 4) (.cst (.int 0))) (.at_ 1 (.var 2))))) .never .skip) (.seth 1 (.at_ 1 (.var 2)) (.idx (.var 4) (.cst (.int 0))) (.cst (.bl true)))) D s) ul E (enumD 0 ((c0 :: ds0).map caseD)) [some o1, some (.h [(a, .dcK [] [])] []), some (.d (.ref a)), none, none] := by
    intro o1 a E ul hE
    refine forL_inv _ (fun i s => ∃ o3 o4, fr o3 ∧ fr o4 ∧ s = [some o1, some (.h [(a, .dcK (((c0 :: ds0).take i).map keyC) (((c0 :: ds0).take i).map fun _ => .bl true))] []), some (.d (.ref a)), o3, o4]) (fun i x s N hN hx hs => ?_) (fun s hs => ?_) _ ⟨none, none, fr.n, fr.n, rfl⟩
    · obtain ⟨o3, o4, f3, f4, rfl⟩ := hs
      obtain ⟨c, hc, rfl⟩ := enum_map hx
      · have hm : c ∈ c0 :: ds0 := List.mem_of_getElem? hc
        have li : i < 60 := by have := (List.getElem?_eq_some_iff.mp hc).1; omega
        refine ⟨_, tg2 (i := 3) (j := 4) rfl f3 rfl f4, ?_⟩
        refine if_d (fun h => absurd h (by omega)) fun _ => ?_
        refine ic c _ (hn c hm) (hf c hm).1 (hf c hm).2 ?_
        refine ⟨_, rfl, ?_⟩
        refine ⟨0, _, rfl, ?_⟩
        refine ⟨_, rfl, ?_⟩
        have kn := key_new nd hc
        show if (dget (((c0 :: ds0).take i).map keyC) (((c0 :: ds0).take i).map fun _ => D.bl true) (keyC c)).isSome = true then _ else _
        rw [dget_none kn]
        refine if_b (fun h => by cases h) fun _ => ?_
        refine ⟨0, _, rfl, ?_⟩
        refine ⟨_, rfl, ?_⟩
        refine ⟨rfl, ?_⟩
        refine ⟨_, rfl, ?_, ?_⟩
        · show (((c0 :: ds0).take i).map keyC).length < line
          rw [List.length_map, List.length_take]
          exact Nat.lt_of_lt_of_le (show _ < 61 by omega) (show 61 ≤ 16777216 by decide)
        refine ⟨rfl, ?_⟩
        refine hN _ ⟨some (.d (.int i)), some (.d (caseD c)), fr.x, fr.x, ?_⟩
        show _ = [some o1, some (O.h [(a, D.dcK (((c0 :: ds0).take (i + 1)).map keyC) (((c0 :: ds0).take (i + 1)).map fun _ => D.bl true))] []), some (.d (.ref a)), some (.d (.int i)), some (.d (caseD c))]
        rw [List.take_add_one, hc]
        show [some o1, some (O.h [(a, D.dcK (dput (((c0 :: ds0).take i).map keyC) (((c0 :: ds0).take i).map fun _ => D.bl true) (keyC c) (.bl true)).1 (dput (((c0 :: ds0).take i).map keyC) (((c0 :: ds0).take i).map fun _ => D.bl true) (keyC c) (.bl true)).2)] []), _, _, _] = _
        rw [dput_new kn]
        simp
    · obtain ⟨o3, o4, f3, f4, rfl⟩ := hs
      exact hE _ _ _ _ f3 f4
  rcases ho with rfl | rfl
  · refine ⟨Nat.zero_le _, okL, nil_ok, ?_⟩
    show if (PyData.eqv (D.lst ((c0 :: ds0).map caseD)).py (D.lst []).py) = true then _ else _
    rw [eqv_nil]
    refine if_b (fun h => by cases h) fun _ => ?_
    intro a
    show forL _ _ _ _ _ _
    refine step _ a _ _ fun o3 o4 ks vs f3 f4 => ?_
    refine ⟨srtOk_cases (by omega), ?_⟩
    rw [lo]
    exact hq
  · refine ⟨Nat.zero_le _, okL, nil_ok, ?_⟩
    show if (PyData.eqv (D.lst ((c0 :: ds0).map caseD)).py (D.lst []).py) = true then _ else _
    rw [eqv_nil]
    refine if_b (fun h => by cases h) fun _ => ?_
    intro a
    show forL _ _ _ _ _ _
    refine step _ a _ _ fun o3 o4 ks vs f3 f4 => ?_
    refine ⟨srtOk_cases (by omega), ?_⟩
    rw [lo]
    exact hq
def strs0 (cs : List Case) : D := .lst ((strL cs).map strD)
def gaps0 (cs : List Case) : D := .lst ((gapsL cs).map gapD)
def lstC (L : List Case) : D := .lst (L.map caseD)
def toldD (c : Case) (ds : List Case) (qs : List Int) : D := .lst (qs.map fun q => caseD (nearC q c ds))
def nmsD (c : Case) (ds : List Case) (qs : List Int) : D := .lst (qs.map fun q => nmD (nearC q c ds).2)
def SpAll (C : Ct) : Prop := ∀ (c : Case) (ds ps : List Case) (qs : List Int) Q, CasesOk (c :: ds) → (c :: ds).length ≤ 60 → ps.Perm (c :: ds) → qs.length ≤ 1000 →
  (∀ a b e, Q (.l false [toldD c ds qs, nmsD c ds qs, .ref a, .ref b, .ref e]) [some (.d (lstC ps)), some (.l true (qs.map .int)), some (.h [(a, strs0 (c :: ds)), (b, gaps0 (c :: ds)), (e, lstC (c :: ds))] [])]) →
  C "@_law_all" [.d (lstC ps), .l true (qs.map .int), .h [] []] Q
theorem all_ok : ∀ k, 5 ≤ k → SpAll (call tab k) := lvl 5 fun j c ds ps qs Q ok hl pm ql hq => by
  have ne := near_ok t_nearest (j + 4) (by omega)
  have ju := judged_ok t_nearest t_judged (j + 4) (by omega)
  have st := stretches_ok t_stretches (j + 4) (by omega)
  have bo := borders_ok t_stretches t_borders (j + 4) (by omega)
  have co := cases_of_ok (j + 4) (by omega)
  refine run_call t_h__law_all rfl ?_
  generalize call tab (j + 4) = C at ne ju st bo co ⊢
  have nd : (ps.map (·.1)).Nodup := (pm.map _).nodup_iff.mpr (nd_of_lt ok.inc)
  have nok : NamesOk ps := fun x hx => ok.nm x (pm.mem_iff.mp hx)
  have far : ∀ c ∈ ps, -(10 ^ 60) ≤ c.1 ∧ c.1 ≤ 10 ^ 60 := fun x hx => ok.far x (pm.mem_iff.mp hx)
  have es : sortC ps = c :: ds := sortC_eq pm.symm ok.inc
  have lp : ps.length = (c :: ds).length := pm.length_eq
  have lp1 : 1 ≤ ps.length := by rw [lp]; simp
  show compL _ _ _ _ _ _ _ _ _ _
  refine compL_inv _ (fun i acc s => acc = (qs.take i).map (fun q => caseD (nearC q c ds)) ∧ s = [some (.d (lstC ps)), some (.k true (qs.map .int)), some (.h [] []), none, none, none]) (fun i x acc s N hN hx hs => ?_) (fun acc s hs => ?_) _ ⟨rfl, rfl⟩
  · obtain ⟨rfl, rfl⟩ := hs
    obtain ⟨q, hc, rfl⟩ := mapD_at hx
    have hi := (List.getElem?_eq_some_iff.mp hc).1
    refine ⟨_, rfl, ?_⟩
    refine ne _ ps _ _ Lt.d nd (by omega) ?_
    rw [es, near_sorted ok.inc]
    refine ⟨_, _, rfl, ?_, hN _ _ ⟨?_, rfl⟩⟩
    · rw [List.length_map, List.length_take]; show _ < 16777216; omega
    · rw [List.take_add_one, hc, List.map_append]; rfl
  obtain ⟨rfl, rfl⟩ := hs
  rw [List.length_map, List.take_length]
  show compL _ _ _ _ _ _ _ _ _ _
  refine compL_inv _ (fun i acc s => acc = (qs.take i).map (fun q => nmD (nearC q c ds).2) ∧ s = [some (.d (lstC ps)), some (.k true (qs.map .int)), some (.h [] []), some (.d (toldD c ds qs)), none, none]) (fun i x acc s N hN hx hs => ?_) (fun acc s hs => ?_) _ ⟨rfl, rfl⟩
  · obtain ⟨rfl, rfl⟩ := hs
    obtain ⟨q, hc, rfl⟩ := mapD_at hx
    have hi := (List.getElem?_eq_some_iff.mp hc).1
    refine ⟨_, rfl, ?_⟩
    refine ju _ ps _ (nearC q c ds) _ Lt.d nd (by omega) (by rw [es, near_sorted ok.inc]) ?_
    refine ⟨_, _, rfl, ?_, hN _ _ ⟨?_, rfl⟩⟩
    · rw [List.length_map, List.length_take]; show _ < 16777216; omega
    · rw [List.take_add_one, hc, List.map_append]; rfl
  obtain ⟨rfl, rfl⟩ := hs
  rw [List.length_map, List.take_length]
  refine st _ ps _ Lt.d nd (by omega) nok ?_
  rw [es]
  intro a
  refine bo _ ps _ Lt.d nd (by omega) nok ?_
  rw [es]
  intro b
  refine co _ ps _ Lt.d nok far nd (by omega) (by omega) ?_
  rw [es]
  intro e
  refine ⟨Nat.le_of_ble_eq_true rfl, ?_⟩
  refine ⟨[0, 1, 2], _, rfl, by decide, ?_⟩
  exact hq a b e
theorem cellK_of {h j : Nat} {s : St} {Q : D → Prop} {a : Addr} {x : D} (e : cellAt s h j = some (a, x)) (q : Q x) : cellK h j s Q := by
  unfold cellK; rw [e]; exact q
theorem putCK_of {h j : Nat} {x y : D} {s : St} {Q : St → Prop} {M : List (Addr × D)} {L : List Nat} {a : Addr} (e : s[h]? = some (some (.h M L))) (m : M[j]? = some (a, y)) (l : L.contains j = false) (q : Q (s.set h (some (.h (M.set j (a, x)) L)))) : putCK h j x s Q := by
  unfold putCK regK; rw [e]
  simp only [m]
  exact ⟨l, by rw [listK_eq, setK_eq]; exact q⟩
theorem ob2_mk {α β : Type} {o : Option (α × β)} {f : α → β → Prop} {x : α} {y : β} (e : o = some (x, y)) (h : f x y) : ob2 o f := by rw [e]; exact h
theorem back0 (s0 s : St) (K : St → Prop) : backK s0 [] [] s K = K s := rfl
theorem strs_len : ∀ (cs : List Case), (strL cs).length ≤ cs.length := strL_len
def dueD (c : Case) (ds : List Case) (qs : List Int) : D := .lst [toldD c ds qs, nmsD c ds qs, strs0 (c :: ds), gaps0 (c :: ds), lstC (c :: ds)]
theorem strD_okx {x : Stretch} (h : NameOk x.2.2) : (strD x).plain = true ∧ (strD x).py.canLay0 = true ∧ (strD x).py.depth ≤ 1 := tup_okx (n := 0) fun y hy => by
  simp only [List.mem_cons, List.not_mem_nil, or_false] at hy
  rcases hy with rfl | rfl | rfl
  · exact ⟨rfl, rfl, Nat.le_refl _⟩
  · exact ⟨rfl, rfl, Nat.le_refl _⟩
  · exact nmD_ok' h
theorem runs_nm : ∀ (f : Int) (c : Case) (ds : List Case), (∀ x ∈ c :: ds, NameOk x.2) → ∀ y ∈ runs f c ds, NameOk y.2.2
  | f, c, [], h, y, hy => by
    rw [List.mem_singleton.mp hy]; exact h c (by simp)
  | f, c, d :: ds, h, y, hy => by
    unfold runs at hy
    split at hy
    · exact runs_nm f d ds (fun x hx => h x (List.mem_cons_of_mem _ hx)) y hy
    · rcases List.mem_cons.mp hy with rfl | hy
      · exact h c (by simp)
      · exact runs_nm d.1 d ds (fun x hx => h x (List.mem_cons_of_mem _ hx)) y hy
theorem okx_up {x : D} {n m : Nat} (h : n ≤ m) (o : x.plain = true ∧ x.py.canLay0 = true ∧ x.py.depth ≤ n) : x.plain = true ∧ x.py.canLay0 = true ∧ x.py.depth ≤ m := ⟨o.1, o.2.1, Nat.le_trans o.2.2 h⟩
theorem parts_ok {c : Case} {ds : List Case} (ok : CasesOk (c :: ds)) (qs : List Int) : ∀ x ∈ [toldD c ds qs, nmsD c ds qs, strs0 (c :: ds), gaps0 (c :: ds), lstC (c :: ds)], x.plain = true ∧ x.py.canLay0 = true ∧ x.py.depth ≤ 2 := fun x hx => by
  simp only [List.mem_cons, List.not_mem_nil, or_false] at hx
  rcases hx with rfl | rfl | rfl | rfl | rfl
  · exact lst_okx (n := 1) fun y hy => by
      obtain ⟨q, _, rfl⟩ := List.mem_map.mp hy
      exact caseD_ok' (ok.nm _ (near_mem q c ds))
  · exact okx_up (n := 1) (by decide) (lst_okx (n := 0) fun y hy => by
      obtain ⟨q, _, rfl⟩ := List.mem_map.mp hy
      exact nmD_ok' (ok.nm _ (near_mem q c ds)))
  · exact lst_okx (n := 1) fun y hy => by
      obtain ⟨q, hq, rfl⟩ := List.mem_map.mp hy
      exact strD_okx (runs_nm c.1 c ds ok.nm q hq)
  · exact lst_okx (n := 1) fun y hy => by
      obtain ⟨q, _, rfl⟩ := List.mem_map.mp hy
      exact gaps_okx q
  · exact lst_okx (n := 1) fun y hy => by
      obtain ⟨q, hq, rfl⟩ := List.mem_map.mp hy
      exact caseD_ok' (ok.nm _ hq)
theorem due_ok {c : Case} {ds : List Case} (ok : CasesOk (c :: ds)) (qs : List Int) : (dueD c ds qs).ok := ok_lst (n := 2) (by decide) (parts_ok ok qs)
theorem deep_due {M : List (Addr × D)} {c : Case} {ds : List Case} {a b e : Addr} {j1 j2 j3 : Nat} (ok : CasesOk (c :: ds)) (qs : List Int) (h1 : M[j1]? = some (a, strs0 (c :: ds))) (h2 : M[j2]? = some (b, gaps0 (c :: ds))) (h3 : M[j3]? = some (e, lstC (c :: ds))) : Deep M (.lst [toldD c ds qs, nmsD c ds qs, .ref a, .ref b, .ref e]) (dueD c ds qs) := by
  have p := parts_ok ok qs
  exact .lst (.cons (.same _ (p _ (by simp)).1) (.cons (.same _ (p _ (by simp)).1) (.cons (.ref h1 (.same _ (p _ (by simp)).1)) (.cons (.ref h2 (.same _ (p _ (by simp)).1)) (.cons (.ref h3 (.same _ (p _ (by simp)).1)) .nil)))))
theorem spec_law : ∀ ns : List Int, ns.length ≤ 63 → ∀ Q : O → List (Option O) → Prop, (∀ fin, Q (.d (.bl true)) fin) → call tab 12 "law" [.d (.frz (ns.map .int))] Q := by
  intro sc _ Q hq
  have dr := draw_ok drawT (k := 11) (by decide)
  have ca := cases_ok0 drawT t__law_names t__law_cases 11 (by decide)
  have sh := shuf_ok drawT t__law_shuffled 11 (by decide)
  have al := all_ok 11 (by decide)
  have ha := hand_ok drawT (k := 11) (by decide)
  refine run_call t_law rfl ?_
  generalize call tab 11 = C at dr ca sh al ha ⊢
  refine ha _ _ fun h1 hh1 => ?_
  refine ⟨Nat.le_of_ble_eq_true rfl, ?_⟩
  refine dr _ _ _ hh1 (by decide) (by decide) fun u h2 hh2 u0 u1 => ?_
  obtain ⟨n, hn, en⟩ := atI_ints (ns := [4, 12, 60]) u0 (by simpa using u1)
  refine ⟨_, en, ?_⟩
  have hn' : 1 ≤ n ∧ n ≤ 60 := by
    simp at hn
    omega
  refine ca _ n _ hh2 hn'.1 hn'.2 fun cs h3 hh3 ok c0 c1 => ?_
  obtain ⟨c, ds, rfl⟩ : ∃ c ds, cs = c :: ds := by
    cases cs with
    | nil => simp at c0
    | cons c ds => exact ⟨c, ds, rfl⟩
  have lL : (c :: ds).length ≤ 60 := by omega
  refine ⟨Nat.zero_le _, ⟨by decide, by decide⟩, ?_⟩
  show forL _ _ _ _ _ _
  refine forL_inv _ (fun i s => ∃ h qs o5 o6 o7, Hand h ∧ qs.length = i ∧ fr o5 ∧ fr o6 ∧ fr o7 ∧ s = [some (.d (.frz (sc.map .int))), some (.h [] []), some (.l false h), some (.d (lstC (c :: ds))), some (.l false (qs.map .int)), o5, o6, o7, none, none, none, none, none]) (fun i q s N hN hx hs => ?_) (fun s hs => ?_) _ ⟨h3, [], none, none, none, hh3, rfl, fr.n, fr.n, fr.n, rfl⟩
  · obtain ⟨h, qs, o5, o6, o7, hh, rfl, f5, f6, f7, rfl⟩ := hs
    obtain ⟨hi, rfl⟩ := rangeD_at hx
    have hi : qs.length < 10 := hi
    refine ⟨_, put_fr rfl f5, ?_⟩
    refine dr _ _ _ hh ?_ (small ?_ ?_) fun v h4 hh4 v0 v1 => ?_
    · show (0 : Int) < (((c :: ds).map caseD).length : Int)
      rw [List.length_map]; simp
    · show (0 : Int) < (((c :: ds).map caseD).length : Int)
      rw [List.length_map]; simp
    · show (((c :: ds).map caseD).length : Int) ≤ 10 ^ 70
      rw [List.length_map]; omega
    rw [List.length_map] at v1
    obtain ⟨vn, x, rfl, ex, ev⟩ := atI_mem caseD v0 v1
    refine ⟨_, ev, _, rfl, ?_⟩
    show putK _ _ _ _
    refine putK_of rfl f6 ?_
    refine dr _ _ _ hh4 ?_ (small ?_ ?_) fun w h5 hh5 w0 w1 => ?_
    · show (0 : Int) < (((c :: ds).map caseD).length : Int)
      rw [List.length_map]; simp
    · show (0 : Int) < (((c :: ds).map caseD).length : Int)
      rw [List.length_map]; simp
    · show (((c :: ds).map caseD).length : Int) ≤ 10 ^ 70
      rw [List.length_map]; omega
    rw [List.length_map] at w1
    obtain ⟨wn, y, rfl, ey, ew⟩ := atI_mem caseD w0 w1
    refine ⟨_, ew, _, rfl, ?_⟩
    show putK _ _ _ _
    refine putK_of rfl f7 ?_
    refine ⟨⟨by decide, by decide⟩, ⟨by decide, by decide, by decide⟩, ?_⟩
    refine dr _ _ _ hh5 (by decide) (by decide) fun d h6 hh6 d0 d1 => ?_
    refine ⟨Nat.le_of_ble_eq_true rfl, ?_⟩
    refine dr _ _ _ hh6 (by decide) (by decide) fun t h7 hh7 t0 t1 => ?_
    obtain ⟨z, hz, ez⟩ := atI_ints (ns := [x.1, (x.1 + y.1) / 2, if x.1 - d > -(10 ^ (60 : Int).toNat) then x.1 - d else -(10 ^ (60 : Int).toNat)]) t0 (by simpa using t1)
    refine ⟨_, ez, ?_, ?_⟩
    · show (qs.map D.int).length < 16777216
      rw [List.length_map]; omega
    exact hN _ ⟨h7, qs ++ [z], some (.d (.int (0 + (qs.length : Int)))), some (.d (.int x.1)), some (.d (.int y.1)), hh7, by simp, fr.x, fr.x, fr.x, by rw [List.map_append]; rfl⟩
  obtain ⟨h4, qs, o5, o6, o7, hh4, ql, f5, f6, f7, rfl⟩ := hs
  have ql : qs.length = 10 := ql
  refine sh _ (c :: ds) _ hh4 (by omega) ok.nm fun p1 h5 hh5 pm1 => ?_
  refine sh _ (c :: ds) _ hh5 (by omega) ok.nm fun p2 h6 hh6 pm2 => ?_
  have er : (c :: ds).reverse.map caseD = ((c :: ds).map caseD).reverse := by rw [List.map_reverse]
  refine ⟨Nat.le_of_ble_eq_true rfl, ?_⟩
  show compL _ _ _ _ _ _ _ _ _ _
  rw [← er]
  rw [show [D.lst (p1.map caseD), D.lst (p2.map caseD), D.lst ((c :: ds).reverse.map caseD), D.lst ((c :: ds).map caseD)] = [p1, p2, (c :: ds).reverse, c :: ds].map lstC from rfl]
  have pms : ∀ p ∈ [p1, p2, (c :: ds).reverse, c :: ds], p.Perm (c :: ds) := fun p hp => by
    simp only [List.mem_cons, List.not_mem_nil, or_false] at hp
    rcases hp with rfl | rfl | rfl | rfl
    · exact pm1
    · exact pm2
    · exact List.reverse_perm _
    · exact .refl _
  have l4 : [p1, p2, (c :: ds).reverse, c :: ds].length = 4 := rfl
  have e1 : [p1, p2, (c :: ds).reverse, c :: ds][1]? = some p2 := rfl
  generalize [p1, p2, (c :: ds).reverse, c :: ds] = Os at pms l4 e1
  refine compL_inv _ (fun i acc s => acc = (Os.take i).map lstC ∧ s = [some (.d (.frz (sc.map .int))), some (.h [] []), some (.l false h6), some (.d (lstC (c :: ds))), some (.l false (qs.map .int)), o5, o6, o7, some (.d (.lst (Os.map lstC))), none, none, none, none]) (fun i x acc s N hN hx hs => ?_) (fun acc s hs => ?_) _ ⟨rfl, rfl⟩
  · obtain ⟨rfl, rfl⟩ := hs
    obtain ⟨p, hp, rfl⟩ := mapD_at hx
    have hi := (List.getElem?_eq_some_iff.mp hp).1
    refine ⟨_, rfl, ?_⟩
    refine ⟨_, _, rfl, ?_, hN _ _ ⟨?_, rfl⟩⟩
    · rw [List.length_map, List.length_take]; show _ < 16777216; omega
    · rw [List.take_add_one, hp, List.map_append]; rfl
  obtain ⟨rfl, rfl⟩ := hs
  rw [List.length_map, List.take_length]
  have lq : qs.length ≤ 1000 := by omega
  refine ⟨[], ?_⟩
  refine al c ds (c :: ds) qs _ ok lL (.refl _) lq fun a b e => ?_
  dsimp only [lastH, merge, List.nil_append, listK, setK]
  show setK _ 4 _ _
  rw [setK_eq, back0]
  refine ob2_mk rfl ?_
  refine putK_of rfl fr.n ?_
  have e2 : cut (Os.map lstC) none (some 1) = (Os.take 1).map lstC := by
    rw [show (1 : Int) = ((1 : Nat) : Int) from rfl, cut_to (by rw [List.length_map]; omega), List.map_take]
  refine ⟨?_, ?_⟩
  · show (Os.map lstC).length + (cut (Os.map lstC) none (some 1)).length ≤ 16777216
    rw [e2, List.length_map, List.length_map, List.length_take]; omega
  rw [e2, ← List.map_append]
  have all : ∀ p ∈ Os ++ Os.take 1, p.Perm (c :: ds) := fun p hp => by
    rcases List.mem_append.mp hp with hp | hp
    · exact pms p hp
    · exact pms p (List.mem_of_mem_take hp)
  generalize Os ++ Os.take 1 = Al at all
  show forL _ _ _ _ _ _
  refine forL_inv _ (fun i s => ∃ M o5 o11 o12, fr o5 ∧ fr o11 ∧ fr o12 ∧ s = [some (.d (.frz (sc.map .int))), some (.h ([(a, strs0 (c :: ds)), (b, gaps0 (c :: ds)), (e, lstC (c :: ds))] ++ M) []), some (.l false h6), some (.d (lstC (c :: ds))), some (.l false (qs.map .int)), o5, o6, o7, some (.d (.lst (Os.map lstC))), some (.d (.lst (Os.map lstC))), some (.d (.lst [toldD c ds qs, nmsD c ds qs, .ref a, .ref b, .ref e])), o11, o12]) (fun i q s N hN hx' hs => ?_) (fun s hs => ?_) _ ⟨[], o5, none, none, f5, fr.n, fr.n, rfl⟩
  · obtain ⟨M, o5, o11, o12, f5, f11, f12, rfl⟩ := hs
    obtain ⟨p, hp, rfl⟩ := mapD_at hx'
    have pm := all _ (List.mem_of_getElem? hp)
    refine ⟨_, put_fr rfl f11, ?_⟩
    refine ⟨[], ?_⟩
    refine al c ds p qs _ ok lL pm lq fun a' b' e' => ?_
    dsimp only [lastH, merge]
    rw [listK_eq, setK_eq]
    show setK _ 4 _ _
    rw [setK_eq, back0]
    refine ob2_mk rfl ?_
    refine putK_of rfl f12 ?_
    have M3 : ∀ z, ([(a, strs0 (c :: ds)), (b, gaps0 (c :: ds)), (e, lstC (c :: ds))] ++ M ++ [(a', strs0 (c :: ds)), (b', gaps0 (c :: ds)), (e', lstC (c :: ds))])[3 + M.length + z]? = [(a', strs0 (c :: ds)), (b', gaps0 (c :: ds)), (e', lstC (c :: ds))][z]? := fun z => by
      rw [List.getElem?_append_right (by simp; omega)]
      congr 1
      simp; omega
    have dok : (dueD c ds qs).ok := due_ok ok qs
    have d1 : Deep ([(a, strs0 (c :: ds)), (b, gaps0 (c :: ds)), (e, lstC (c :: ds))] ++ M ++ [(a', strs0 (c :: ds)), (b', gaps0 (c :: ds)), (e', lstC (c :: ds))]) (.lst [toldD c ds qs, nmsD c ds qs, .ref a, .ref b, .ref e]) (dueD c ds qs) :=
      deep_due (j1 := 0) (j2 := 1) (j3 := 2) ok qs rfl rfl rfl
    have d2 : Deep ([(a, strs0 (c :: ds)), (b, gaps0 (c :: ds)), (e, lstC (c :: ds))] ++ M ++ [(a', strs0 (c :: ds)), (b', gaps0 (c :: ds)), (e', lstC (c :: ds))]) (.lst [toldD c ds qs, nmsD c ds qs, .ref a', .ref b', .ref e']) (dueD c ds qs) :=
      deep_due ok qs (M3 0) (M3 1) (M3 2)
    refine ⟨_, _, rfl, d2, _, _, rfl, d1, dok, dok, ?_⟩
    show if (!PyData.eqv (dueD c ds qs).py (dueD c ds qs).py) = true then _ else _
    rw [eqv_self dok]
    refine if_b (fun h => by cases h) fun _ => ?_
    show forL _ _ _ _ _ _
    have M4 : ([(a, strs0 (c :: ds)), (b, gaps0 (c :: ds)), (e, lstC (c :: ds))] ++ M).length = 3 + M.length := by simp; omega
    have rl : ∀ xs : List Case, (strL xs).length ≤ xs.length := strL_len
    refine forL_inv _ (fun i s => ∃ (W : List (Addr × D)) (o5 : Option O), fr o5 ∧ W.map (·.1) = [a', b', e'] ∧ (∀ x ∈ W, ∃ xs, x.2 = .lst xs ∧ xs.length ≤ 200 + i) ∧ s = [some (.d (.frz (sc.map .int))), some (.h ([(a, strs0 (c :: ds)), (b, gaps0 (c :: ds)), (e, lstC (c :: ds))] ++ M ++ W) []), some (.l false h6), some (.d (lstC (c :: ds))), some (.l false (qs.map .int)), o5, o6, o7, some (.d (.lst (Os.map lstC))), some (.d (.lst (Os.map lstC))), some (.d (.lst [toldD c ds qs, nmsD c ds qs, .ref a, .ref b, .ref e])), some (.d (lstC p)), some (.d (.lst [toldD c ds qs, nmsD c ds qs, .ref a', .ref b', .ref e']))]) (fun i q s N2 hN2 hx2 hs => ?_) (fun s hs => ?_) _ ⟨_, o5, f5, rfl, fun x hx => ?_, rfl⟩
    · obtain ⟨W, o5, f5, wa, wx, rfl⟩ := hs
      obtain ⟨hi, rfl⟩ := rangeD_at hx2
      have hi : i < 3 := hi
      refine ⟨_, put_fr rfl f5, ?_⟩
      have wl : W.length = 3 := by rw [← List.length_map (·.1), wa]; rfl
      obtain ⟨w, hw⟩ : ∃ w, W[i]? = some w := ⟨_, List.getElem?_eq_getElem (by omega)⟩
      obtain ⟨adr, wc⟩ := w
      obtain ⟨xs, rfl, xl⟩ : ∃ xs, wc = .lst xs ∧ xs.length ≤ 200 + i := wx _ (List.mem_of_getElem? hw)
      have eref : L2.atI [toldD c ds qs, nmsD c ds qs, .ref a', .ref b', .ref e'] (2 + (i : Int)) = some (.ref adr) := by
        have h1 : (W.map (·.1))[i]? = some adr := by rw [List.getElem?_map, hw]; rfl
        rw [wa] at h1
        rw [show (2 + (i : Int)) = ((i + 2 : Nat) : Int) by omega]
        refine L2.atI_nat ?_
        match i, hi, h1 with
        | 0, _, h1 => injection h1 with h1; rw [← h1]; rfl
        | 1, _, h1 => injection h1 with h1; rw [← h1]; rfl
        | 2, _, h1 => injection h1 with h1; rw [← h1]; rfl
      have gw : ([(a, strs0 (c :: ds)), (b, gaps0 (c :: ds)), (e, lstC (c :: ds))] ++ M ++ W)[3 + M.length + i]? = some (adr, D.lst xs) := by
        rw [List.getElem?_append_right (by omega), M4, ← hw]
        congr 1; omega
      refine ⟨_, eref, 3 + M.length + i, _, gw, rfl, ?_⟩
      refine cellK_of gw ?_
      refine ⟨Nat.le_of_ble_eq_true rfl, ?_⟩
      refine cellK_of gw ?_
      refine ⟨by show xs.length < 16777216; omega, ?_⟩
      refine putCK_of (L := []) rfl gw rfl ?_
      refine hN2 _ ⟨W.set i (adr, D.lst (xs ++ [D.tup [D.str ("x" : Str), D.int 0]])), some (.d (.int (2 + (i : Int)))), fr.x, ?_, fun x hx => ?_, ?_⟩
      · rw [List.map_set, wa]
        have h1 : (W.map (·.1))[i]? = some adr := by rw [List.getElem?_map, hw]; rfl
        rw [wa] at h1
        obtain ⟨h2, h3⟩ := List.getElem?_eq_some_iff.mp h1
        show [a', b', e'].set i adr = _
        rw [← h3, List.set_getElem_self]
      · rcases List.mem_or_eq_of_mem_set hx with hx | rfl
        · obtain ⟨ys, e1, e2⟩ := wx x hx
          exact ⟨ys, e1, by omega⟩
        · exact ⟨_, rfl, by rw [List.length_append]; show xs.length + 1 ≤ _; omega⟩
      · have e9 : ([(a, strs0 (c :: ds)), (b, gaps0 (c :: ds)), (e, lstC (c :: ds))] ++ M ++ W).set (3 + M.length + i) (adr, D.lst (xs ++ [D.tup [D.str ("x" : Str), D.int 0]])) = [(a, strs0 (c :: ds)), (b, gaps0 (c :: ds)), (e, lstC (c :: ds))] ++ M ++ W.set i (adr, D.lst (xs ++ [D.tup [D.str ("x" : Str), D.int 0]])) := by
          rw [List.set_append_right _ _ (by omega), M4]
          congr 2; omega
        rw [← e9]
        rfl
    · obtain ⟨W, o5, f5, wa, wx, rfl⟩ := hs
      rw [List.append_assoc]
      exact hN _ ⟨M ++ W, o5, _, _, f5, fr.x, fr.x, rfl⟩
    · have k1 : ((strL (c :: ds)).map strD).length ≤ 200 := by have := strL_len (c :: ds); rw [List.length_map]; omega
      have k2 : ((gapsL (c :: ds)).map gapD).length ≤ 200 := by
        rw [List.length_map, gapsL_cons]
        have f := (form_cases c ds ok.inc ok.nm).len
        have g := nms_le c ds
        simp at lL; omega
      have k3 : ((c :: ds).map caseD).length ≤ 200 := by rw [List.length_map]; omega
      simp only [List.mem_cons, List.not_mem_nil, or_false] at hx
      rcases hx with rfl | rfl | rfl
      · exact ⟨_, rfl, k1⟩
      · exact ⟨_, rfl, k2⟩
      · exact ⟨_, rfl, k3⟩
  · obtain ⟨M, o5, o11, o12, f5, f11, f12, rfl⟩ := hs
    have osok : (D.lst (Os.map lstC)).ok := ok_lst (n := 2) (by decide) fun x hx => by
      obtain ⟨p, hp, rfl⟩ := List.mem_map.mp hx
      exact lst_okx (n := 1) fun y hy => by
        obtain ⟨z, hz, rfl⟩ := List.mem_map.mp hy
        exact caseD_ok' (ok.nm z ((pms p hp).mem_iff.mp hz))
    have dok : (dueD c ds qs).ok := due_ok ok qs
    have e3 : L2.atI (Os.map lstC) 1 = some (lstC p2) := atI_map_nat lstC (n := 1) e1
    refine ⟨osok, osok, ?_⟩
    show if PyData.eqv (D.lst (Os.map lstC)).py (D.lst (Os.map lstC)).py = true then _ else _
    rw [eqv_self osok]
    refine if_b (fun _ => ?_) fun h => by cases h
    refine ⟨_, e3, [], ?_⟩
    refine al c ds p2 qs _ ok lL pm2 lq fun a' b' e' => ?_
    dsimp only [lastH, merge]
    rw [listK_eq, setK_eq]
    show setK _ 4 _ _
    rw [setK_eq, back0]
    have M3 : ∀ z, ([(a, strs0 (c :: ds)), (b, gaps0 (c :: ds)), (e, lstC (c :: ds))] ++ M ++ [(a', strs0 (c :: ds)), (b', gaps0 (c :: ds)), (e', lstC (c :: ds))])[3 + M.length + z]? = [(a', strs0 (c :: ds)), (b', gaps0 (c :: ds)), (e', lstC (c :: ds))][z]? := fun z => by
      rw [List.getElem?_append_right (by simp; omega)]
      congr 1
      simp; omega
    have d1 : Deep ([(a, strs0 (c :: ds)), (b, gaps0 (c :: ds)), (e, lstC (c :: ds))] ++ M ++ [(a', strs0 (c :: ds)), (b', gaps0 (c :: ds)), (e', lstC (c :: ds))]) (.lst [toldD c ds qs, nmsD c ds qs, .ref a, .ref b, .ref e]) (dueD c ds qs) :=
      deep_due (j1 := 0) (j2 := 1) (j3 := 2) ok qs rfl rfl rfl
    have d2 : Deep ([(a, strs0 (c :: ds)), (b, gaps0 (c :: ds)), (e, lstC (c :: ds))] ++ M ++ [(a', strs0 (c :: ds)), (b', gaps0 (c :: ds)), (e', lstC (c :: ds))]) (.lst [toldD c ds qs, nmsD c ds qs, .ref a', .ref b', .ref e']) (dueD c ds qs) :=
      deep_due ok qs (M3 0) (M3 1) (M3 2)
    refine ⟨_, _, rfl, d2, _, _, rfl, d1, dok, dok, ?_⟩
    show (rEnds 1 Q).rt (.v (.d (.bl (PyData.eqv (dueD c ds qs).py (dueD c ds qs).py)))) _
    rw [eqv_self dok]
    exact hq _

theorem all_mk {P : Program} {w : World} {K : PySem.W.Frag} {h : Heap} {mg : Str → Option Value} {fa f0 f1 f2 f3 f4 f5 f6 f7 f8 f9 f10 f11 f12 f13 f14 f15 f16 f17 : Addr} (X : K.In h) (G : h.Ns mainGlobals mg) (hfa : mg "law" = some (.ref fa))
    {oc0 kV0 dc0 pm0 cd0 ct0 oc1 kV1 dc1 pm1 cd1 ct1 oc2 kV2 dc2 pm2 cd2 ct2 oc3 kV3 dc3 pm3 cd3 ct3 oc4 kV4 dc4 pm4 cd4 ct4 oc5 kV5 dc5 pm5 cd5 ct5 oc6 kV6 dc6 pm6 cd6 ct6 oc7 kV7 dc7 pm7 cd7 ct7 oc8 kV8 dc8 pm8 cd8 ct8 oc9 kV9 dc9 pm9 cd9 ct9 oc10 kV10 dc10 pm10 cd10 ct10 oc11 kV11 dc11 pm11 cd11 ct11 oc12 kV12 dc12 pm12 cd12 ct12 oc13 kV13 dc13 pm13 cd13 ct13 oc14 kV14 dc14 pm14 cd14 ct14 oc15 kV15 dc15 pm15 cd15 ct15 oc16 kV16 dc16 pm16 cd16 ct16 oc17 kV17 dc17 pm17 cd17 ct17 : Value} {od0 an0 od1 an1 od2 an2 od3 an3 od4 an4 od5 an5 od6 an6 od7 an7 od8 an8 od9 an9 od10 an10 od11 an11 od12 an12 od13 an13 od14 an14 od15 an15 od16 an16 od17 an17 : Option Addr} {sl0 sl1 sl2 sl3 sl4 sl5 sl6 sl7 sl8 sl9 sl10 sl11 sl12 sl13 sl14 sl15 sl16 sl17 : Array (Option Value)} {tk0 tk1 tk2 : Tok}
    (a0 : PySem.W.nsIn K mainGlobals "nearest" = some (some (.ref f0))) (l0 : K.lookup f0 = some ⟨oc0, od0, .func (PySem.W.fnOf "nearest" "nearest" (L2.defArgs (topS 1)) (L2.defBody (topS 1)) (L2.defScope (topS 1)) .none kV0 dc0 pm0 an0 cd0 ct0), sl0⟩) (c0 : PySem.W.codeIn K cd0 "nearest" = true) (k0 : PySem.W.keepIn K (.ref f0) = true)
    (a1 : PySem.W.nsIn K mainGlobals "judged" = some (some (.ref f1))) (l1 : K.lookup f1 = some ⟨oc1, od1, .func (PySem.W.fnOf "judged" "judged" (L2.defArgs (topS 2)) (L2.defBody (topS 2)) (L2.defScope (topS 2)) .none kV1 dc1 pm1 an1 cd1 ct1), sl1⟩) (c1 : PySem.W.codeIn K cd1 "judged" = true) (k1 : PySem.W.keepIn K (.ref f1) = true)
    (a2 : PySem.W.nsIn K mainGlobals "stretches" = some (some (.ref f2))) (l2 : K.lookup f2 = some ⟨oc2, od2, .func (PySem.W.fnOf "stretches" "stretches" (L2.defArgs (topS 3)) (L2.defBody (topS 3)) (L2.defScope (topS 3)) .none kV2 dc2 pm2 an2 cd2 ct2), sl2⟩) (c2 : PySem.W.codeIn K cd2 "stretches" = true) (k2 : PySem.W.keepIn K (.ref f2) = true)
    (a3 : PySem.W.nsIn K mainGlobals "borders" = some (some (.ref f3))) (l3 : K.lookup f3 = some ⟨oc3, od3, .func (PySem.W.fnOf "borders" "borders" (L2.defArgs (topS 4)) (L2.defBody (topS 4)) (L2.defScope (topS 4)) .none kV3 dc3 pm3 an3 cd3 ct3), sl3⟩) (c3 : PySem.W.codeIn K cd3 "borders" = true) (k3 : PySem.W.keepIn K (.ref f3) = true)
    (a4 : PySem.W.nsIn K mainGlobals "is_number" = some (some (.ref f4))) (l4 : K.lookup f4 = some ⟨oc4, od4, .func (PySem.W.fnOf "is_number" "is_number" (L2.defArgs (topS 12)) (L2.defBody (topS 12)) (L2.defScope (topS 12)) .none kV4 dc4 pm4 an4 cd4 ct4), sl4⟩) (c4 : PySem.W.codeIn K cd4 "is_number" = true) (k4 : PySem.W.keepIn K (.ref f4) = true)
    (a5 : PySem.W.nsIn K mainGlobals "is_place" = some (some (.ref f5))) (l5 : K.lookup f5 = some ⟨oc5, od5, .func (PySem.W.fnOf "is_place" "is_place" (L2.defArgs (topS 13)) (L2.defBody (topS 13)) (L2.defScope (topS 13)) .none kV5 dc5 pm5 an5 cd5 ct5), sl5⟩) (c5 : PySem.W.codeIn K cd5 "is_place" = true) (k5 : PySem.W.keepIn K (.ref f5) = true)
    (a6 : PySem.W.nsIn K mainGlobals "is_name" = some (some (.ref f6))) (l6 : K.lookup f6 = some ⟨oc6, od6, .func (PySem.W.fnOf "is_name" "is_name" (L2.defArgs (topS 14)) (L2.defBody (topS 14)) (L2.defScope (topS 14)) .none kV6 dc6 pm6 an6 cd6 ct6), sl6⟩) (c6 : PySem.W.codeIn K cd6 "is_name" = true) (k6 : PySem.W.keepIn K (.ref f6) = true)
    (a7 : PySem.W.nsIn K mainGlobals "is_case" = some (some (.ref f7))) (l7 : K.lookup f7 = some ⟨oc7, od7, .func (PySem.W.fnOf "is_case" "is_case" (L2.defArgs (topS 15)) (L2.defBody (topS 15)) (L2.defScope (topS 15)) .none kV7 dc7 pm7 an7 cd7 ct7), sl7⟩) (c7 : PySem.W.codeIn K cd7 "is_case" = true) (k7 : PySem.W.keepIn K (.ref f7) = true)
    (a8 : PySem.W.nsIn K mainGlobals "cases_of" = some (some (.ref f8))) (l8 : K.lookup f8 = some ⟨oc8, od8, .func (PySem.W.fnOf "cases_of" "cases_of" (L2.defArgs (topS 16)) (L2.defBody (topS 16)) (L2.defScope (topS 16)) .none kV8 dc8 pm8 an8 cd8 ct8), sl8⟩) (c8 : PySem.W.codeIn K cd8 "cases_of" = true) (k8 : PySem.W.keepIn K (.ref f8) = true)
    (a9 : PySem.W.nsIn K mainGlobals "_law_hand" = some (some (.ref f9))) (l9 : K.lookup f9 = some ⟨oc9, od9, .func (PySem.W.fnOf "_law_hand" "_law_hand" (L2.defArgs (topS 18)) (L2.defBody (topS 18)) (L2.defScope (topS 18)) .none kV9 dc9 pm9 an9 cd9 ct9), sl9⟩) (c9 : PySem.W.codeIn K cd9 "_law_hand" = true) (k9 : PySem.W.keepIn K (.ref f9) = true)
    (a10 : PySem.W.nsIn K mainGlobals "_law_step" = some (some (.ref f10))) (l10 : K.lookup f10 = some ⟨oc10, od10, .func (PySem.W.fnOf "_law_step" "_law_step" (L2.defArgs (topS 19)) (L2.defBody (topS 19)) (L2.defScope (topS 19)) .none kV10 dc10 pm10 an10 cd10 ct10), sl10⟩) (c10 : PySem.W.codeIn K cd10 "_law_step" = true) (k10 : PySem.W.keepIn K (.ref f10) = true)
    (a11 : PySem.W.nsIn K mainGlobals "_law_take" = some (some (.ref f11))) (l11 : K.lookup f11 = some ⟨oc11, od11, .func (PySem.W.fnOf "_law_take" "_law_take" (L2.defArgs (topS 20)) (L2.defBody (topS 20)) (L2.defScope (topS 20)) .none kV11 dc11 pm11 an11 cd11 ct11), sl11⟩) (c11 : PySem.W.codeIn K cd11 "_law_take" = true) (k11 : PySem.W.keepIn K (.ref f11) = true)
    (a12 : PySem.W.nsIn K mainGlobals "_law_draw" = some (some (.ref f12))) (l12 : K.lookup f12 = some ⟨oc12, od12, .func (PySem.W.fnOf "_law_draw" "_law_draw" (L2.defArgs (topS 21)) (L2.defBody (topS 21)) (L2.defScope (topS 21)) .none kV12 dc12 pm12 an12 cd12 ct12), sl12⟩) (c12 : PySem.W.codeIn K cd12 "_law_draw" = true) (k12 : PySem.W.keepIn K (.ref f12) = true)
    (a13 : PySem.W.nsIn K mainGlobals "_law_names" = some (some (.ref f13))) (l13 : K.lookup f13 = some ⟨oc13, od13, .func (PySem.W.fnOf "_law_names" "_law_names" (L2.defArgs (topS 22)) (L2.defBody (topS 22)) (L2.defScope (topS 22)) .none kV13 dc13 pm13 an13 cd13 ct13), sl13⟩) (c13 : PySem.W.codeIn K cd13 "_law_names" = true) (k13 : PySem.W.keepIn K (.ref f13) = true)
    (a14 : PySem.W.nsIn K mainGlobals "_law_cases" = some (some (.ref f14))) (l14 : K.lookup f14 = some ⟨oc14, od14, .func (PySem.W.fnOf "_law_cases" "_law_cases" (L2.defArgs (topS 23)) (L2.defBody (topS 23)) (L2.defScope (topS 23)) .none kV14 dc14 pm14 an14 cd14 ct14), sl14⟩) (c14 : PySem.W.codeIn K cd14 "_law_cases" = true) (k14 : PySem.W.keepIn K (.ref f14) = true)
    (a15 : PySem.W.nsIn K mainGlobals "_law_shuffled" = some (some (.ref f15))) (l15 : K.lookup f15 = some ⟨oc15, od15, .func (PySem.W.fnOf "_law_shuffled" "_law_shuffled" (L2.defArgs (topS 24)) (L2.defBody (topS 24)) (L2.defScope (topS 24)) .none kV15 dc15 pm15 an15 cd15 ct15), sl15⟩) (c15 : PySem.W.codeIn K cd15 "_law_shuffled" = true) (k15 : PySem.W.keepIn K (.ref f15) = true)
    (a16 : PySem.W.nsIn K mainGlobals "_law_all" = some (some (.ref f16))) (l16 : K.lookup f16 = some ⟨oc16, od16, .func (PySem.W.fnOf "_law_all" "_law_all" (L2.defArgs (topS 25)) (L2.defBody (topS 25)) (L2.defScope (topS 25)) .none kV16 dc16 pm16 an16 cd16 ct16), sl16⟩) (c16 : PySem.W.codeIn K cd16 "_law_all" = true) (k16 : PySem.W.keepIn K (.ref f16) = true)
    (a17 : PySem.W.nsIn K mainGlobals "law" = some (some (.ref f17))) (l17 : K.lookup f17 = some ⟨oc17, od17, .func (PySem.W.fnOf "law" "law" (L2.defArgs (topS 26)) (L2.defBody (topS 26)) (L2.defScope (topS 26)) .none kV17 dc17 pm17 an17 cd17 ct17), sl17⟩) (c17 : PySem.W.codeIn K cd17 "law" = true) (k17 : PySem.W.keepIn K (.ref f17) = true)
    (z0 : PySem.W.nsIn K mainGlobals "len" = some none)
    (z1 : PySem.W.nsIn K mainGlobals "abs" = some none)
    (z2 : PySem.W.nsIn K mainGlobals "max" = some none)
    (z3 : PySem.W.nsIn K mainGlobals "min" = some none)
    (z4 : PySem.W.nsIn K mainGlobals "sum" = some none)
    (z5 : PySem.W.nsIn K mainGlobals "all" = some none)
    (z6 : PySem.W.nsIn K mainGlobals "any" = some none)
    (z7 : PySem.W.nsIn K mainGlobals "int" = some none)
    (z8 : PySem.W.nsIn K mainGlobals "bool" = some none)
    (z9 : PySem.W.nsIn K mainGlobals "str" = some none)
    (z10 : PySem.W.nsIn K mainGlobals "list" = some none)
    (z11 : PySem.W.nsIn K mainGlobals "tuple" = some none)
    (z12 : PySem.W.nsIn K mainGlobals "dict" = some none)
    (z13 : PySem.W.nsIn K mainGlobals "sorted" = some none)
    (z14 : PySem.W.nsIn K mainGlobals "isinstance" = some none)
    (z15 : PySem.W.nsIn K mainGlobals "range" = some none)
    (z16 : PySem.W.nsIn K mainGlobals "enumerate" = some none)
    (z17 : PySem.W.nsIn K mainGlobals "zip" = some none)
    (z18 : PySem.W.nsIn K mainGlobals "reversed" = some none)
    (z19 : PySem.W.nsIn K mainGlobals "repr" = some none)
    (q0 : PySem.W.nsIn K mainGlobals "FAR" = some (some (.int (1000000000000000000000000000000000000000000000000000000000000) tk0)))
    (q1 : PySem.W.nsIn K mainGlobals "MOST_CASES" = some (some (.int (60) tk1)))
    (q2 : PySem.W.nsIn K mainGlobals "MOST_LETTERS" = some (some (.int (8) tk2)))
    (zV : PySem.W.nsIn K mainGlobals "ValueError" = some none)
    : ∃ fd : FuncData, (∀ (s : Shared) (v : Value), BindsTo s fd ⟨[v], []⟩ [("_law_script", v)]) ∧ ∀ base : Heap, K.In base → base.Ns mainGlobals mg → FnG P w K mg base 14 fa fd ["_law_script"] (@spLaw ⟨K⟩ 63) := by
  have d0 := def_mk (T := tab) (gs := gs) (r := false) X G s_nearest c_nearest t_nearest (hk := 0) rfl (fun _ _ _ _ _ _ us hl => match us, hl with | [_, _], _ => rfl) a0 l0 c0 k0
  have d1 := def_mk (T := tab) (gs := gs) (r := false) X G s_judged c_judged t_judged (hk := 0) rfl (fun _ _ _ _ _ _ us hl => match us, hl with | [_, _], _ => rfl) a1 l1 c1 k1
  have d2 := def_mk (T := tab) (gs := gs) (r := false) X G s_stretches c_stretches t_stretches (hk := 0) rfl (fun _ _ _ _ _ _ us hl => match us, hl with | [_], _ => rfl) a2 l2 c2 k2
  have d3 := def_mk (T := tab) (gs := gs) (r := false) X G s_borders c_borders t_borders (hk := 0) rfl (fun _ _ _ _ _ _ us hl => match us, hl with | [_], _ => rfl) a3 l3 c3 k3
  have d4 := def_mk (T := tab) (gs := gs) (r := false) X G s_is_number c_is_number t_is_number (hk := 0) rfl (fun _ _ _ _ _ _ us hl => match us, hl with | [_], _ => rfl) a4 l4 c4 k4
  have d5 := def_mk (T := tab) (gs := gs) (r := false) X G s_is_place c_is_place t_is_place (hk := 0) rfl (fun _ _ _ _ _ _ us hl => match us, hl with | [_], _ => rfl) a5 l5 c5 k5
  have d6 := def_mk (T := tab) (gs := gs) (r := false) X G s_is_name c_is_name t_is_name (hk := 0) rfl (fun _ _ _ _ _ _ us hl => match us, hl with | [_], _ => rfl) a6 l6 c6 k6
  have d7 := def_mk (T := tab) (gs := gs) (r := false) X G s_is_case c_is_case t_is_case (hk := 0) rfl (fun _ _ _ _ _ _ us hl => match us, hl with | [_], _ => rfl) a7 l7 c7 k7
  have d8 := def_mk (T := tab) (gs := gs) (r := false) X G s_cases_of c_cases_of t_cases_of (hk := 0) rfl (fun _ _ _ _ _ _ us hl => match us, hl with | [_], _ => rfl) a8 l8 c8 k8
  have d9 := def_mk (T := tab) (gs := gs) (r := false) X G s__law_hand c__law_hand t__law_hand (hk := 0) rfl (fun _ _ _ _ _ _ us hl => match us, hl with | [_], _ => rfl) a9 l9 c9 k9
  have d10 := def_mk (T := tab) (gs := gs) (r := false) X G s__law_step c__law_step t__law_step (hk := 0) rfl (fun _ _ _ _ _ _ us hl => match us, hl with | [_], _ => rfl) a10 l10 c10 k10
  have d11 := def_mk (T := tab) (gs := gs) (r := false) X G s__law_take c__law_take t__law_take (hk := 0) rfl (fun _ _ _ _ _ _ us hl => match us, hl with | [_], _ => rfl) a11 l11 c11 k11
  have d12 := def_mk (T := tab) (gs := gs) (r := false) X G s__law_draw c__law_draw t__law_draw (hk := 0) rfl (fun _ _ _ _ _ _ us hl => match us, hl with | [_, _], _ => rfl) a12 l12 c12 k12
  have d13 := def_mk (T := tab) (gs := gs) (r := false) X G s__law_names c__law_names t__law_names (hk := 0) rfl (fun _ _ _ _ _ _ us hl => match us, hl with | [_, _], _ => rfl) a13 l13 c13 k13
  have d14 := def_mk (T := tab) (gs := gs) (r := false) X G s__law_cases c__law_cases t__law_cases (hk := 0) rfl (fun _ _ _ _ _ _ us hl => match us, hl with | [_, _], _ => rfl) a14 l14 c14 k14
  have d15 := def_mk (T := tab) (gs := gs) (r := false) X G s__law_shuffled c__law_shuffled t__law_shuffled (hk := 0) rfl (fun _ _ _ _ _ _ us hl => match us, hl with | [_, _], _ => rfl) a15 l15 c15 k15
  have d16 := def_mk (T := tab) (gs := gs) (r := false) X G s_h__law_all c_h__law_all t_h__law_all (hk := 1) rfl (fun _ _ _ _ _ _ us hl => match us, hl with | [_, _], _ => rfl) a16 l16 c16 k16
  have d17 := def_mk (T := tab) (gs := gs) (r := false) X G s_law c_law t_law (hk := 0) rfl (fun _ _ _ _ _ _ us hl => match us, hl with | [_], _ => rfl) a17 l17 c17 k17
  have hd : ∀ f ∈ gs.fns, ∃ fa fd N ps st F, @DefAt ⟨K⟩ tab gs mg f f false 0 fa fd N ps st F := by
    intro f hf
    rcases List.mem_cons.mp hf with rfl | hf; exact ⟨_, _, _, _, _, _, d0⟩
    rcases List.mem_cons.mp hf with rfl | hf; exact ⟨_, _, _, _, _, _, d1⟩
    rcases List.mem_cons.mp hf with rfl | hf; exact ⟨_, _, _, _, _, _, d2⟩
    rcases List.mem_cons.mp hf with rfl | hf; exact ⟨_, _, _, _, _, _, d3⟩
    rcases List.mem_cons.mp hf with rfl | hf; exact ⟨_, _, _, _, _, _, d4⟩
    rcases List.mem_cons.mp hf with rfl | hf; exact ⟨_, _, _, _, _, _, d5⟩
    rcases List.mem_cons.mp hf with rfl | hf; exact ⟨_, _, _, _, _, _, d6⟩
    rcases List.mem_cons.mp hf with rfl | hf; exact ⟨_, _, _, _, _, _, d7⟩
    rcases List.mem_cons.mp hf with rfl | hf; exact ⟨_, _, _, _, _, _, d8⟩
    rcases List.mem_cons.mp hf with rfl | hf; exact ⟨_, _, _, _, _, _, d9⟩
    rcases List.mem_cons.mp hf with rfl | hf; exact ⟨_, _, _, _, _, _, d10⟩
    rcases List.mem_cons.mp hf with rfl | hf; exact ⟨_, _, _, _, _, _, d11⟩
    rcases List.mem_cons.mp hf with rfl | hf; exact ⟨_, _, _, _, _, _, d12⟩
    rcases List.mem_cons.mp hf with rfl | hf; exact ⟨_, _, _, _, _, _, d13⟩
    rcases List.mem_cons.mp hf with rfl | hf; exact ⟨_, _, _, _, _, _, d14⟩
    rcases List.mem_cons.mp hf with rfl | hf; exact ⟨_, _, _, _, _, _, d15⟩
    rcases List.mem_cons.mp hf with rfl | hf; exact ⟨_, _, _, _, _, _, d17⟩
    exact absurd hf List.not_mem_nil
  have hr : ∀ f g, gs.rs.lookup f = some g → ∃ fa fd N ps st F, @DefAt ⟨K⟩ tab gs mg f g true 0 fa fd N ps st F := by
    intro f g hx
    simp only [gs, List.lookup_cons, List.lookup_nil] at hx
    cases hx
  have hhs : ∀ f g, gs.hs.lookup f = some g → ∃ fa fd N ps st F, @DefAt ⟨K⟩ tab gs mg f g false 1 fa fd N ps st F := by
    intro f g hx
    simp only [gs, List.lookup_cons, List.lookup_nil] at hx
    split at hx
    · cases hx; rename_i e; rw [eq_of_beq e]; exact ⟨_, _, _, _, _, _, d16⟩
    cases hx
  have hhx : ∀ f g, gs.hxs.lookup f = some g → ∃ fa fd N ps st F, @DefAt ⟨K⟩ tab gs mg f g true 1 fa fd N ps st F := by
    intro f g hx
    simp only [gs, List.lookup_cons, List.lookup_nil] at hx
    cases hx
  have hb : ∀ x ∈ bltNames, PySem.W.nsIn K mainGlobals x = some none := by
    intro x hx
    rcases List.mem_cons.mp hx with rfl | hx; exact z0
    rcases List.mem_cons.mp hx with rfl | hx; exact z1
    rcases List.mem_cons.mp hx with rfl | hx; exact z2
    rcases List.mem_cons.mp hx with rfl | hx; exact z3
    rcases List.mem_cons.mp hx with rfl | hx; exact z4
    rcases List.mem_cons.mp hx with rfl | hx; exact z5
    rcases List.mem_cons.mp hx with rfl | hx; exact z6
    rcases List.mem_cons.mp hx with rfl | hx; exact z7
    rcases List.mem_cons.mp hx with rfl | hx; exact z8
    rcases List.mem_cons.mp hx with rfl | hx; exact z9
    rcases List.mem_cons.mp hx with rfl | hx; exact z10
    rcases List.mem_cons.mp hx with rfl | hx; exact z11
    rcases List.mem_cons.mp hx with rfl | hx; exact z12
    rcases List.mem_cons.mp hx with rfl | hx; exact z13
    rcases List.mem_cons.mp hx with rfl | hx; exact z14
    rcases List.mem_cons.mp hx with rfl | hx; exact z15
    rcases List.mem_cons.mp hx with rfl | hx; exact z16
    rcases List.mem_cons.mp hx with rfl | hx; exact z17
    rcases List.mem_cons.mp hx with rfl | hx; exact z18
    rcases List.mem_cons.mp hx with rfl | hx; exact z19
    exact absurd hx List.not_mem_nil
  have hc : ∀ x d, gs.csts.lookup x = some d → ∃ u v, mg x = some u ∧ L2.RelV v u ∧ ∀ Hs, @Sh ⟨K⟩ Hs d v := by
    intro x d hx
    simp only [gs, List.lookup_cons, List.lookup_nil] at hx
    split at hx
    · cases hx; rename_i e; rw [eq_of_beq e]; exact cst_int X G q0
    split at hx
    · cases hx; rename_i e; rw [eq_of_beq e]; exact cst_int X G q1
    split at hx
    · cases hx; rename_i e; rw [eq_of_beq e]; exact cst_int X G q2
    cases hx
  have hx : ∃ A : Nat → Addr, (∀ c ∈ gs.xcs, XcOk K mg gs.xcs A c) ∧ (∀ c ∈ gs.xrs, c ∈ gs.xcs ∧ XmOk K c (A c)) := by
    refine ⟨fun c => 0, fun c hc => ?_, fun c hc => ?_⟩
    · replace hc : c ∈ ([] : List Nat) := hc
      exact absurd hc List.not_mem_nil
    · replace hc : c ∈ ([] : List Nat) := hc
      exact absurd hc List.not_mem_nil
  have top : @TopOk ⟨K⟩ tab gs mg := @TopOk.mk ⟨K⟩ tab gs mg hd hr (blt_mk X G hb) hc hx (PySem.W.mg_none_of X G zV) hhs hhx
  cases hfa.symm.trans (@DefAt.mgf ⟨K⟩ _ _ _ _ _ _ _ _ _ _ _ _ _ d17)
  exact ⟨_, fun s v => .of_eq rfl, fun base _ _ => @law_ok ⟨K⟩ tab gs P w mg base 63 12 _ _ _ _ _ _ _ top d17 rfl spec_law⟩
end K18
open PySem PySem.W PyProof.Rows
set_option maxHeartbeats 0 in
theorem PySem.Challenge.cw_nearcase_k18_order_says_nothing_holds : PySem.Challenge.rw_nearcase_k18_order_says_nothing.Holds := by
  w_on; o_law; k_head; (case hw => w_witness2)
  k_fill
  refine Itp.walk_go (l := PySem.Challenge.rw_nearcase_k18_order_says_nothing) (n := 63) (k := 14) (x := "_law_script") (sp := fun w => @Itp.spLaw ⟨_⟩ 63) rfl (by decide) rfl ⟨rfl, by decide, by decide⟩ (fun w h Y => PySem.W.kIn_of Y) ?F (fun _ _ a ns hl _ hS => ⟨a, ns, rfl, hS, hl, fun _ => rfl⟩)
  case F =>
    intro w mg fa h KX G hmg
    refine' K18.all_mk KX G hmg ?a0 ?l0 ?c0 ?k0 ?a1 ?l1 ?c1 ?k1 ?a2 ?l2 ?c2 ?k2 ?a3 ?l3 ?c3 ?k3 ?a4 ?l4 ?c4 ?k4 ?a5 ?l5 ?c5 ?k5 ?a6 ?l6 ?c6 ?k6 ?a7 ?l7 ?c7 ?k7 ?a8 ?l8 ?c8 ?k8 ?a9 ?l9 ?c9 ?k9 ?a10 ?l10 ?c10 ?k10 ?a11 ?l11 ?c11 ?k11 ?a12 ?l12 ?c12 ?k12 ?a13 ?l13 ?c13 ?k13 ?a14 ?l14 ?c14 ?k14 ?a15 ?l15 ?c15 ?k15 ?a16 ?l16 ?c16 ?k16 ?a17 ?l17 ?c17 ?k17 ?z0 ?z1 ?z2 ?z3 ?z4 ?z5 ?z6 ?z7 ?z8 ?z9 ?z10 ?z11 ?z12 ?z13 ?z14 ?z15 ?z16 ?z17 ?z18 ?z19 ?q0 ?q1 ?q2 ?zV
    (case a0 => k_is); (case l0 => k_is); (case c0 => k_is); (case k0 => k_is); (case a1 => k_is); (case l1 => k_is); (case c1 => k_is); (case k1 => k_is); (case a2 => k_is); (case l2 => k_is); (case c2 => k_is); (case k2 => k_is); (case a3 => k_is); (case l3 => k_is); (case c3 => k_is); (case k3 => k_is); (case a4 => k_is); (case l4 => k_is); (case c4 => k_is); (case k4 => k_is); (case a5 => k_is); (case l5 => k_is); (case c5 => k_is); (case k5 => k_is); (case a6 => k_is); (case l6 => k_is); (case c6 => k_is); (case k6 => k_is); (case a7 => k_is); (case l7 => k_is); (case c7 => k_is); (case k7 => k_is); (case a8 => k_is); (case l8 => k_is); (case c8 => k_is); (case k8 => k_is); (case a9 => k_is); (case l9 => k_is); (case c9 => k_is); (case k9 => k_is); (case a10 => k_is); (case l10 => k_is); (case c10 => k_is); (case k10 => k_is); (case a11 => k_is); (case l11 => k_is); (case c11 => k_is); (case k11 => k_is); (case a12 => k_is); (case l12 => k_is); (case c12 => k_is); (case k12 => k_is); (case a13 => k_is); (case l13 => k_is); (case c13 => k_is); (case k13 => k_is); (case a14 => k_is); (case l14 => k_is); (case c14 => k_is); (case k14 => k_is); (case a15 => k_is); (case l15 => k_is); (case c15 => k_is); (case k15 => k_is); (case a16 => k_is); (case l16 => k_is); (case c16 => k_is); (case k16 => k_is); (case a17 => k_is); (case l17 => k_is); (case c17 => k_is); (case k17 => k_is); (case z0 => k_is); (case z1 => k_is); (case z2 => k_is); (case z3 => k_is); (case z4 => k_is); (case z5 => k_is); (case z6 => k_is); (case z7 => k_is); (case z8 => k_is); (case z9 => k_is); (case z10 => k_is); (case z11 => k_is); (case z12 => k_is); (case z13 => k_is); (case z14 => k_is); (case z15 => k_is); (case z16 => k_is); (case z17 => k_is); (case z18 => k_is); (case z19 => k_is); (case q0 => k_is); (case q1 => k_is); (case q2 => k_is); (case zV => k_is)
